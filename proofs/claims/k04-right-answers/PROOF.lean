import PyProof.Rows.All
import Wide.All
import OpenK.AllK
import Wide.FinOn
import PySem.Str
import HandS.ForMost
import HandS.Exc
import HandS.ExcOwn
import HandS.TupAny
import HandS.Deep
import HandS.TupMul
import HandS.Flow
import HandS.Style
import HandS.Conv
import HandS.StrMore
import HandS.IsInst
import HandS.NoneIn
import HandS.WordsExc
import KE.KDictKeyed
import KE.KeyNested
import HandS.Iter
import HandS.More
import PyProof.StrLawsFirst
import HandS.Defaults
import KE.KStateDown
import HandS.Ends
import HandS.Words
import HandS.Head0
import HandS.Head1
import HandS.Head2
import HandS.HeadEnd
import HandS.HeadHook1
import HandS.HeadHook2
import PySem.Challenge.RW_windowends_k04_right_answers
set_option autoImplicit false
/-! VI: a small language (E, S) and its meaning in plain values (T). Lists and dicts carry a flag: true, where the value is held by one variable alone. -/
namespace Vi

inductive T where
  | non | und
  | bl (b : Bool)
  | int (i : Int)
  | str (s : List Nat)
  | tup (l : List T)
  | lst (o : Bool) (l : List T)
  | dic (o : Bool) (l : List (T × T))
  deriving Inhabited

abbrev Env := List (Option T)

inductive R (α : Type) where
  | no
  | ok (a : α) (e : Env)
  | ex (c : Nat) (d : T) (e : Env)
abbrev M (α : Type) := Env → R α
def R.bind {α β : Type} (r : R α) (f : α → Env → R β) : R β := match r with
  | .no => .no
  | .ok a e => f a e
  | .ex c d e => .ex c d e
def M.ret {α : Type} (a : α) : M α := fun e => .ok a e

/-! ### values -/
def own : T → Bool
  | .lst o _ => o
  | .dic o _ => o
  | _ => false
def fz1 : T → T
  | .lst _ l => .lst false l
  | t => t
def fz : T → T
  | .lst _ l => .lst false l
  | .dic _ l => .dic false (l.map fun p => (p.1, fz1 p.2))
  | t => t
/-- what a second holder of a value may know of it -/
def sh1 : T → T
  | .lst true _ => .und
  | .dic true _ => .und
  | t => t

mutual
def keq : T → T → Bool
  | .non, .non => true
  | .int a, .int b => a == b
  | .str a, .str b => a == b
  | .tup a, .tup b => keqs a b
  | _, _ => false
def keqs : List T → List T → Bool
  | [], [] => true
  | a :: r, b :: q => keq a b && keqs r q
  | _, _ => false
end
mutual
/-- a part of a key, its depth at most n -/
def isPart : Nat → T → Bool
  | _, .non => true
  | _, .int _ => true
  | _, .str _ => true
  | n + 1, .tup l => isParts n l
  | _, _ => false
def isParts : Nat → List T → Bool
  | _, [] => true
  | n, a :: r => isPart n a && isParts n r
end
/-- keys: ints and texts (kind 0), tuples (kind 1) -/
def kind? : T → Option Bool
  | .int _ => some false
  | .str _ => some false
  | .tup l => if isParts 7 l then some true else none
  | _ => none
def kindD (l : List (T × T)) (k : T) : Bool := match kind? k with
  | none => false
  | some b => match l with
    | [] => true
    | p :: _ => kind? p.1 == some b
def dget : List (T × T) → T → Option T
  | [], _ => none
  | p :: r, k => if keq p.1 k then some p.2 else dget r k
def dhas (l : List (T × T)) (k : T) : Bool := l.any fun p => keq p.1 k
def dput (l : List (T × T)) (k v : T) : List (T × T) := if dhas l k then l.map fun p => if keq p.1 k then (p.1, v) else p else l ++ [(k, v)]
mutual
def eqb : T → T → Bool
  | .non, .non => true
  | .bl a, .bl b => a == b
  | .bl a, .int b => (if a then 1 else 0) == b
  | .int a, .bl b => a == (if b then 1 else 0)
  | .int a, .int b => a == b
  | .str a, .str b => a == b
  | .tup a, .tup b => eqbs a b
  | .lst _ a, .lst _ b => eqbs a b
  | _, _ => false
def eqbs : List T → List T → Bool
  | [], [] => true
  | a :: r, b :: q => eqb a b && eqbs r q
  | _, _ => false
end
mutual
/-- data to compare, its depth at most n -/
def dat : Nat → T → Bool
  | _, .und => false
  | _, .dic _ _ => false
  | 0, .tup _ => false
  | 0, .lst _ _ => false
  | n + 1, .tup l => dats n l
  | n + 1, .lst _ l => dats n l
  | _, _ => true
def dats : Nat → List T → Bool
  | _, [] => true
  | n, a :: r => dat n a && dats n r
end
def flat : T → Bool
  | .non => true
  | .bl _ => true
  | .int _ => true
  | .str _ => true
  | _ => false
def six (n d : Nat) : Option Int → Nat
  | none => d
  | some i => (if i < 0 then max (i + n) 0 else min i n).toNat
def cut {α : Type} (l : List α) (lo hi : Option Int) : List α := (l.drop (six l.length 0 lo)).take (six l.length l.length hi - six l.length 0 lo)
def ixn (n : Nat) (i : Int) : Option Nat := if 0 ≤ i then (if i < n then some i.toNat else none) else if -(n : Int) ≤ i then some (i + n).toNat else none
def atx {α : Type} (l : List α) (i : Int) : Option α := (ixn l.length i).bind fun j => l[j]?

inductive Bop where
  | add | sub | mul | fdiv | mod | pow
  deriving DecidableEq
inductive Cop where
  | eq | ne | lt | le | gt | ge | inn | nin
  deriving DecidableEq
inductive B1 where
  | len | int | abs | list | tuple | dict | str | all | any | sum | min | max | sorted | bool
  deriving DecidableEq
inductive B2 where
  | min | max
  deriving DecidableEq
/-- methods of a text, with one argument -/
inductive Mt where
  | join | index | split
  deriving DecidableEq
inductive Ty where
  | int | bool | str | tuple | list
  deriving DecidableEq

abbrev line : Nat := 16777216
def in64 (i : Int) : Bool := decide (-18446744073709551616 < i) && decide (i < 18446744073709551616)
def binT : Bop → T → T → Option T
  | .add, .int a, .int b => some (.int (a + b))
  | .add, .str a, .str b => if a.length + b.length ≤ line then some (.str (a ++ b)) else none
  | .add, .tup a, .tup b => if a.length + b.length ≤ line then some (.tup (a ++ b)) else none
  | .add, .lst _ a, .lst _ b => if a.length + b.length ≤ line then some (.lst true (a ++ b)) else none
  | .sub, .int a, .int b => some (.int (a - b))
  | .mul, .int a, .int b => if in64 a || in64 b then some (.int (a * b)) else none
  | .mul, .tup a, .int k => if a ≠ [] ∧ 2 ≤ k ∧ k ≤ 1000 ∧ a.length ≤ 1000 then some (.tup (List.replicate k.toNat a).flatten) else none
  | .mul, .str a, .int k => if a.length ≤ 1000 ∧ 0 ≤ k ∧ k ≤ 1000 then some (.str (List.replicate k.toNat a).flatten) else none
  | .fdiv, .int a, .int b => if 0 < b ∧ b < 1073741824 then some (.int (a / b)) else none
  | .mod, .int a, .int b => if 0 < b then some (.int (a % b)) else none
  | .pow, .int a, .int b => if 0 ≤ b ∧ b ≤ 1000000 ∧ a.natAbs < 18446744073709551616 then some (.int (a ^ b.toNat)) else none
  | _, _, _ => none
def negT : T → Option T
  | .int i => some (.int (-i))
  | _ => none
def tru : T → Option Bool
  | .non => some false
  | .bl b => some b
  | .int i => some (i != 0)
  | .str s => some (!s.isEmpty)
  | .tup l => some (!l.isEmpty)
  | .lst _ l => some (!l.isEmpty)
  | _ => none
def preS : List Nat → List Nat → Bool
  | [], _ => true
  | a :: r, b :: q => a == b && preS r q
  | _, _ => false
def subS (x : List Nat) : List Nat → Bool
  | [] => x.isEmpty
  | b :: q => preS x (b :: q) || subS x q
def inT : T → T → Option Bool
  | .str [c], .str s => some (s.contains c)
  | .str x, .str s => some (subS x s)
  | x, .tup l => if flat x && l.all flat then some (l.any fun y => eqb y x) else none
  | x, .lst _ l => if dat 60 x && dats 60 l then some (l.any fun y => eqb y x) else none
  | k, .dic _ l => if kindD l k then some (dget l k).isSome else none
  | _, _ => none
def cmpT : Cop → T → T → Option Bool
  | .eq, a, b => if dat 64 a && dat 64 b then some (eqb a b) else none
  | .ne, a, b => if dat 64 a && dat 64 b then some (!eqb a b) else none
  | .lt, .int a, .int b => some (decide (a < b))
  | .le, .int a, .int b => some (decide (a ≤ b))
  | .gt, .int a, .int b => some (decide (b < a))
  | .ge, .int a, .int b => some (decide (b ≤ a))
  | .lt, .str a, .str b => some (decide (a < b))
  | .gt, .str a, .str b => some (decide (b < a))
  | .le, .str a, .str b => some (!decide (b < a))
  | .ge, .str a, .str b => some (!decide (a < b))
  | .inn, a, b => inT a b
  | .nin, a, b => (inT a b).map (!·)
  | _, _, _ => none
def idxT : T → T → Option T
  | .tup l, .int i => atx l i
  | .lst _ l, .int i => atx l i
  | .str s, .int i => (atx s i).map fun c => .str [c]
  | .dic _ l, k => if kindD l k then (dget l k).map sh1 else none
  | _, _ => none
def sliT : T → Option Int → Option Int → Option T
  | .str s, lo, hi => some (.str (cut s lo hi))
  | .tup l, lo, hi => some (.tup (cut l lo hi))
  | .lst _ l, lo, hi => some (.lst true (cut l lo hi))
  | _, _, _ => none
def ints? : List T → Option (List Int)
  | [] => some []
  | .int i :: r => (ints? r).map (i :: ·)
  | _ => none
def bls? : List T → Option (List Bool)
  | [] => some []
  | .bl b :: r => (bls? r).map (b :: ·)
  | _ => none
def strs? : List T → Option (List (List Nat))
  | [] => some []
  | .str s :: r => (strs? r).map (s :: ·)
  | _ => none
def maxI : List Int → Option Int
  | [] => none
  | [a] => some a
  | a :: r => (maxI r).map fun b => if a < b then b else a
def minI : List Int → Option Int
  | [] => none
  | [a] => some a
  | a :: r => (minI r).map fun b => if b < a then b else a
def insS (a : List Nat) : List (List Nat) → List (List Nat)
  | [] => [a]
  | b :: r => if b < a then b :: insS a r else a :: b :: r
def sortS : List (List Nat) → List (List Nat)
  | [] => []
  | a :: r => insS a (sortS r)
def insI (a : Int) : List Int → List Int
  | [] => [a]
  | b :: r => if b < a then b :: insI a r else a :: b :: r
def sortI : List Int → List Int
  | [] => []
  | a :: r => insI a (sortI r)
def seq? : T → Option (List T)
  | .tup l => some l
  | .lst _ l => some l
  | _ => none
/-- the ten digits, written -/
def digitsF : Nat → Nat → List Nat → List Nat
  | 0, _, acc => acc
  | f + 1, n, acc => if n < 10 then (48 + n) :: acc else digitsF f (n / 10) ((48 + n % 10) :: acc)
def numS (i : Int) : List Nat := if i < 0 then 45 :: digitsF 700 i.natAbs [] else digitsF 700 i.natAbs []
/-- signs that repr writes as they are -/
def plainC (c : Nat) : Bool := decide (32 ≤ c) && decide (c < 127) && c != 39 && c != 92
mutual
def reprT : T → Option (List Nat)
  | .non => some [78, 111, 110, 101]
  | .bl true => some [84, 114, 117, 101]
  | .bl false => some [70, 97, 108, 115, 101]
  | .int i => if i.natAbs < 1000000 then some (numS i) else none
  | .str s => if s.all plainC then some ([39] ++ s ++ [39]) else none
  | .tup [] => some [40, 41]
  | .tup [a] => (reprT a).map fun x => [40] ++ x ++ [44, 41]
  | .tup (a :: r) => (reprT a).bind fun x => (reprTs r).map fun y => [40] ++ x ++ y ++ [41]
  | _ => none
def reprTs : List T → Option (List Nat)
  | [] => some []
  | a :: r => (reprT a).bind fun x => (reprTs r).map fun y => [44, 32] ++ x ++ y
end
/-- an int or a text as a key that is handed out -/
def okK0 : T → Bool
  | .int _ => true
  | .str s => decide (s.length ≤ line) && s.all fun c => decide (c < 1114112)
  | _ => false
def b1T : B1 → T → Option T
  | .len, .str s => if s.length ≤ line then some (.int s.length) else none
  | .len, .tup l => some (.int l.length)
  | .len, .lst _ l => some (.int l.length)
  | .int, .int i => some (.int i)
  | .int, .bl b => some (.int (if b then 1 else 0))
  | .abs, .int i => some (.int (if i < 0 then -i else i))
  | .list, .tup l => some (.lst true l)
  | .list, .lst _ l => some (.lst true l)
  | .list, .dic _ l => if l.all fun p => okK0 p.1 then some (.lst true (l.map (·.1))) else none
  | .tuple, .tup l => some (.tup l)
  | .tuple, .lst _ l => some (.tup l)
  | .dict, .dic _ l => if l.all fun p => kind? p.1 == some false then some (.dic true (l.map fun p => (p.1, sh1 p.2))) else none
  | .all, .lst _ l => (bls? l).map fun bs => .bl (bs.all id)
  | .any, .lst _ l => (bls? l).map fun bs => .bl (bs.any id)
  | .sum, .lst _ l => (ints? l).map fun is => .int is.sum
  | .min, .lst _ l => (ints? l).bind fun is => (minI is).map .int
  | .max, .lst _ l => (ints? l).bind fun is => (maxI is).map .int
  | .bool, .bl b => some (.bl b)
  | _, _ => none
def joinS (sep : List Nat) : List (List Nat) → List Nat
  | [] => []
  | [a] => a
  | a :: r => a ++ sep ++ joinS sep r
/-- a text cut at one sign -/
def split1 (c : Nat) : List Nat → List (List Nat)
  | [] => [[]]
  | a :: r => if a == c then [] :: split1 c r else match split1 c r with
    | [] => [[a]]
    | x :: q => (a :: x) :: q
/-- a text cut at two signs -/
def split2 (c d : Nat) : List Nat → List (List Nat)
  | [] => [[]]
  | [a] => [[a]]
  | a :: b :: r => if a == c && b == d then [] :: split2 c d r else match split2 c d (b :: r) with
    | [] => [[a]]
    | x :: q => (a :: x) :: q
def idxOf {α : Type} (p : α → Bool) : List α → Option Nat
  | [] => none
  | a :: r => if p a then some 0 else (idxOf p r).map (· + 1)
def b2T : B2 → T → T → Option T
  | .min, .int a, .int b => some (.int (if b < a then b else a))
  | .max, .int a, .int b => some (.int (if b > a then b else a))
  | _, _, _ => none
/-- a text's method -/
def mtT : Mt → List Nat → T → Option T
  | .join, sep, t => (seq? t).bind fun l => (strs? l).bind fun ss => if (ss.map List.length).sum + ss.length * sep.length ≤ line then some (.str (joinS sep ss)) else none
  | .index, s, .str [c] => (idxOf (· == c) s).map fun n => .int (n : Nat)
  | _, _, _ => none
def getT : T → T → T → Option T
  | .dic _ l, k, x => if kindD l k then some (((dget l k).map sh1).getD x) else none
  | _, _, _ => none
def isiT : Ty → T → Option Bool
  | _, .und => none
  | _, .dic _ _ => none
  | .int, .int _ => some true
  | .int, .bl _ => some true
  | .bool, .bl _ => some true
  | .str, .str _ => some true
  | .tuple, .tup _ => some true
  | .list, .lst _ _ => some true
  | _, _ => some false

def isNonT : T → Bool
  | .non => true
  | _ => false
/-- x is None (k), x is not None -/
def isNf (k : Bool) (t : T) : Option T := match t with
  | .und => none
  | t => some (.bl (isNonT t == k))
/-- x is b (k), x is not b: of truths and texts -/
def isBf (k b : Bool) (t : T) : Option T := match t with
  | .bl x => some (.bl ((x == b) == k))
  | .str _ => some (.bl (!k))
  | _ => none
def dic? : T → Option Unit
  | .dic _ _ => some ()
  | _ => none
/-! ### the syntax -/
mutual
inductive Tg where
  | nm (i : Nat)
  | tp (ts : Tgs)
inductive Tgs where
  | nil
  | cons (t : Tg) (ts : Tgs)
end
mutual
inductive E where
  | var (i : Nat) | rd (i : Nat) | cst (t : T) | glo (g : Nat)
  | tup (es : Es) | lst (es : Es) | dct (es : Es)
  | bin (op : Bop) (a b : E) | neg (a : E)
  | cmp (op : Cop) (a b : E) | chn (o1 o2 : Cop) (a b c : E) | isN (a : E) | notN (a : E) | isB (b : Bool) (a : E) | notB (b : Bool) (a : E)
  | and (es : Es) | or (es : Es) | not (a : E) | ite (c a b : E)
  | idx (a i : E) | sli (a : E) (lo hi : Eo)
  | call (f : Nat) (as : As)
  | b1 (f : B1) (a : E) | b2 (f : B2) (a b : E) | mt (f : Mt) (a b : E) | get (d k x : E) | isi (ty : Ty) (a : E)
  | lc (elt : E) (tg : Tg) (it : It) (ifs : Es) (own : List Nat)
  | lc2 (elt : E) (tg : Tg) (it : It) (ifs : Es) (tg2 : Tg) (it2 : It) (ifs2 : Es) (own own2 : List Nat)
  | dc (k v : E) (tg : Tg) (it : It) (ifs : Es) (own : List Nat)
  | pop (i : Nat) | lvals (a : E) | gdct (g : Nat)
inductive Es where
  | nil
  | cons (e : E) (es : Es)
inductive Eo where
  | non
  | som (e : E)
inductive As where
  | nil
  | val (e : E) (as : As)
  | mut (i : Nat) (as : As)
  | tmp (e : E) (as : As)
inductive It where
  | of (e : E) | rng (a : E) | rng2 (a b : E) | enu (a : E) | zip (a b : E) | vals (a : E) | items (a : E)
end
mutual
inductive S where
  | pass | brk | cnt
  | asg (i : Nat) (e : E)
  | asgT (tg : Tg) (e : E)
  | par (is : List Nat) (es : Es)
  | put (i : Nat) (k e : E) (keep : Bool)
  | putM (ps : Ps) (es : Es)
  | app (i : Nat) (e : E)
  | appK (i : Nat) (k : T) (e : E)
  | upd (i : Nat) (e : E)
  | exp (e : E)
  | ifs (c : E) (a b : Ss)
  | whl (c : E) (b : Ss)
  | for (tg : Tg) (it : It) (b : Ss)
  | ret (e : E)
  | retv (i : Nat)
  | retN
  | rai (c : Nat) (e : Eo)
inductive Ss where
  | nil
  | cons (s : S) (ss : Ss)
/-- places of one variable: var[k] -/
inductive Ps where
  | nil
  | cons (i : Nat) (k : E) (keep : Bool) (ps : Ps)
end

inductive CR where
  | no
  | ret (t : T) (outs : Env)
  | ex (c : Nat) (d : T) (outs : Env)
structure Cfg where
  glos : List T
  call : Nat → List T → CR

/-! ### the meaning -/
inductive O where
  | v (t : T)
  | r (i : Nat)
def O.get : O → Env → Option T
  | .v t, _ => some t
  | .r i, e => (e[i]?).bind id
def isRd : E → Option Nat
  | .rd i => some i
  | _ => none
def need {α : Type} (o : Option α) : M α := fun e => match o with
  | some a => .ok a e
  | none => .no
def rdVar (i : Nat) : M T := fun e => match (e[i]?).bind id with
  | some t => .ok t e
  | none => .no
def getVar (i : Nat) : M T := fun e => match (e[i]?).bind id with
  | some t => if own t then .ok (fz t) (e.set i (some (fz t))) else .ok t e
  | none => .no
def setVar (i : Nat) (t : T) : M Unit := fun e => if i < e.length then .ok () (e.set i (some t)) else .no
mutual
def asg : Tg → T → M Unit
  | .nm i, t => setVar i t
  | .tp ts, .tup l => asgs ts l
  | .tp _, _ => fun _ => .no
def asgs : Tgs → List T → M Unit
  | .nil, [] => fun e => .ok () e
  | .cons t ts, a :: l => fun e => (asg t a e).bind fun _ e => asgs ts l e
  | _, _ => fun _ => .no
end
def wipe (e : Env) : List Nat → Env
  | [] => e
  | i :: is => (wipe e is).set i none
def back (e0 e : Env) : List Nat → Env
  | [] => e
  | i :: is => (back e0 e is).set i ((e0[i]?).bind id)
/-- what a block's own names hold outside is nothing of one's own -/
def plainAt (e : Env) (is : List Nat) : Bool := is.all fun i => match (e[i]?).bind id with
  | some t => !own t
  | none => true
mutual
def tgNames : Tg → List Nat
  | .nm i => [i]
  | .tp ts => tgsNames ts
def tgsNames : Tgs → List Nat
  | .nil => []
  | .cons t ts => tgNames t ++ tgsNames ts
end
def tgIn (t : Tg) (own : List Nat) : Bool := (tgNames t).all own.contains
/-- one operand (or the left of two): a variable is read when all are there -/
def opd (r : Option Nat) (m : M T) : M O := match r with
  | some i => fun e => match (e[i]?).bind id with
    | some _ => .ok (.r i) e
    | none => .no
  | none => fun e => (m e).bind fun t e => .ok (.v t) e
def strong (r : Option Nat) (m : M T) : M T := match r with
  | some _ => fun _ => .no
  | none => m
def fin1 (o : O) (f : T → Option T) : M T := fun e => match o.get e with
  | some a => need (f a) e
  | none => .no
def fin2 (o p : O) (f : T → T → Option T) : M T := fun e => match o.get e, p.get e with
  | some a, some b => need (f a b) e
  | _, _ => .no
def fin3 (o p q : O) (f : T → T → T → Option T) : M T := fun e => match o.get e, p.get e, q.get e with
  | some a, some b, some c => need (f a b c) e
  | _, _, _ => .no
/-- the turns of a comprehension -/
def turns (own : List Nat) (body : T → M (Option T)) : List T → List T → M (List T)
  | [], acc => fun e => .ok acc e
  | x :: r, acc => fun e => (body x (wipe e own)).bind fun o e => match o with
    | some t => if acc.length < line then turns own body r (acc ++ [t]) e else .no
    | none => turns own body r acc e
def turns2 (own : List Nat) (body : T → List T → M (List T)) : List T → List T → M (List T)
  | [], acc => fun e => .ok acc e
  | x :: r, acc => fun e => (body x acc (wipe e own)).bind fun acc e => turns2 own body r acc e
def turnsD (own : List Nat) (body : T → M (Option (T × T))) : List T → List (T × T) → M (List (T × T))
  | [], acc => fun e => .ok acc e
  | x :: r, acc => fun e => (body x (wipe e own)).bind fun o e => match o with
    | some (k, v) => if acc.length < line && kindD acc k then turnsD own body r (dput acc k v) e else .no
    | none => turnsD own body r acc e
def noEx {α : Type} (r : R α) : R α := match r with
  | .ex _ _ _ => .no
  | r => r
def upto (a b : Int) : List T := (List.range (b - a).toNat).map fun (n : Nat) => .int (a + (n : Int))
def small62 (i : Int) : Bool := decide (-4611686018427387904 ≤ i) && decide (i < 4611686018427387904)
def rngT (a b : T) : Option (List T) := match a, b with
  | .int a, .int b => if small62 a && small62 b then some (upto a b) else none
  | _, _ => none
def enumT : Nat → List T → List T
  | _, [] => []
  | n, a :: r => .tup [.int (n : Nat), a] :: enumT (n + 1) r
def zipT : List T → List T → List T
  | a :: r, b :: q => .tup [a, b] :: zipT r q
  | _, _ => []
/-- what is walked -/
def walk? : T → Option (List T)
  | .tup l => some l
  | .lst _ l => some l
  | .str s => some (s.map fun c => .str [c])
  | _ => none
def argsIn : List (T ⊕ Nat) → Env → Option (List T)
  | [], _ => some []
  | .inl t :: r, e => (argsIn r e).map (t :: ·)
  | .inr i :: r, e => ((e[i]?).bind id).bind fun t => (argsIn r e).map (t :: ·)
def outsIn : List (T ⊕ Nat) → Env → Env → Env
  | .inl _ :: r, _ :: os, e => outsIn r os e
  | .inr i :: r, o :: os, e => outsIn r os (e.set i o)
  | _, _, e => e
/-- no variable is handed over twice -/
def muts : List (T ⊕ Nat) → List Nat
  | [] => []
  | .inl _ :: r => muts r
  | .inr i :: r => i :: muts r
def nodupN : List Nat → Bool
  | [] => true
  | a :: r => !r.contains a && nodupN r
def callM (c : Cfg) (f : Nat) (as : List (T ⊕ Nat)) : M T := fun e => match argsIn as e with
  | some ts => if nodupN (muts as) then (match c.call f ts with
    | .no => .no
    | .ret t outs => .ok t (outsIn as outs e)
    | .ex x d outs => .ex x d (outsIn as outs e)) else .no
  | none => .no
def popM (i : Nat) : M T := fun e => match (e[i]?).bind id with
  | some (.lst true l) => match l.getLast? with
    | some t => .ok t (e.set i (some (.lst true l.dropLast)))
    | none => .no
  | _ => .no

section
variable (c : Cfg)
mutual
def ev : E → M T
  | .var i => getVar i
  | .rd i => rdVar i
  | .cst t => fun e => .ok t e
  | .glo g => need (c.glos[g]?)
  | .tup es => fun e => (evs es e).bind fun l e => .ok (.tup l) e
  | .lst es => fun e => (evs es e).bind fun l e => .ok (.lst true l) e
  | .dct es => fun e => (evp es [] e).bind fun l e => .ok (.dic true l) e
  | .bin op a b => fun e => (opd (isRd a) (ev a) e).bind fun o e => (opd (isRd b) (ev b) e).bind fun p e => fin2 o p (binT op) e
  | .neg a => fun e => (opd (isRd a) (ev a) e).bind fun o e => fin1 o negT e
  | .cmp op a b => fun e => (opd (isRd a) (ev a) e).bind fun o e => (opd (isRd b) (ev b) e).bind fun p e => fin2 o p (fun x y => (cmpT op x y).map .bl) e
  | .chn o1 o2 a b d => fun e => (opd (isRd a) (ev a) e).bind fun o e => (opd (isRd b) (ev b) e).bind fun p e => (fin2 o p (fun x y => (cmpT o1 x y).map .bl) e).bind fun t e => match t with
    | .bl true => (opd (isRd d) (ev d) e).bind fun q e => fin2 p q (fun x y => (cmpT o2 x y).map .bl) e
    | .bl false => .ok (.bl false) e
    | _ => .no
  | .isN a => fun e => (opd (isRd a) (ev a) e).bind fun o e => fin1 o (isNf true) e
  | .notN a => fun e => (opd (isRd a) (ev a) e).bind fun o e => fin1 o (isNf false) e
  | .isB k a => fun e => (opd (isRd a) (ev a) e).bind fun o e => fin1 o (isBf true k) e
  | .notB k a => fun e => (opd (isRd a) (ev a) e).bind fun o e => fin1 o (isBf false k) e
  | .and es => evAnd es
  | .or es => evOr es
  | .not a => fun e => (opd (isRd a) (ev a) e).bind fun o e => fin1 o (fun t => (tru t).map fun b => .bl (!b)) e
  | .ite q a b => fun e => (opd (isRd q) (ev q) e).bind fun o e => (fin1 o (fun t => (tru t).map .bl) e).bind fun t e => match t with
    | .bl true => strong (isRd a) (ev a) e
    | .bl false => strong (isRd b) (ev b) e
    | _ => .no
  | .idx a i => fun e => (opd (isRd a) (ev a) e).bind fun o e => (opd (isRd i) (ev i) e).bind fun p e => fin2 o p idxT e
  | .sli a lo hi => fun e => (opd (isRd a) (ev a) e).bind fun o e => (evo lo e).bind fun l e => (evo hi e).bind fun h e => fin1 o (fun t => sliT t l h) e
  | .call f as => fun e => (eva as e).bind fun l e => callM c f l e
  | .b1 f a => fun e => (opd (isRd a) (ev a) e).bind fun o e => fin1 o (b1T f) e
  | .b2 f a b => fun e => (opd (isRd a) (ev a) e).bind fun o e => (opd (isRd b) (ev b) e).bind fun p e => fin2 o p (b2T f) e
  | .mt f a b => fun e => (strong (isRd a) (ev a) e).bind fun t e => match t with
    | .str s => (opd (isRd b) (ev b) e).bind fun p e => fin1 p (mtT f s) e
    | _ => .no
  | .get d k x => fun e => (opd (isRd d) (ev d) e).bind fun o e => (need ((o.get e).bind dic?) e).bind fun _ e => (opd (isRd k) (ev k) e).bind fun p e => (strong (isRd x) (ev x) e).bind fun t e => fin3 o p (.v (fz t)) getT e
  | .isi ty a => fun e => (opd (isRd a) (ev a) e).bind fun o e => fin1 o (fun t => (isiT ty t).map .bl) e
  | .lc elt tg it ifs own => fun e => (evi it e).bind fun l e0 => if plainAt e0 own && tgIn tg own then noEx ((turns own (fun x e => (asg tg x e).bind fun _ e => (evT ifs e).bind fun b e =>
      if b then (strong (isRd elt) (ev elt) e).bind fun t e => .ok (some (fz t)) e else .ok none e) l [] e0).bind fun acc e => .ok (.lst true acc) (back e0 e own)) else .no
  | .lc2 elt tg it ifs tg2 it2 ifs2 own own2 => fun e => (evi it e).bind fun l e0 => if plainAt e0 own && tgIn tg own && tgIn tg2 own2 && own2.all own.contains then noEx ((turns2 own (fun x acc e => (asg tg x e).bind fun _ e => (evT ifs e).bind fun b e =>
      if b then (evi it2 e).bind fun l2 e => turns own2 (fun x e => (asg tg2 x e).bind fun _ e => (evT ifs2 e).bind fun b e =>
        if b then (strong (isRd elt) (ev elt) e).bind fun t e => .ok (some (fz t)) e else .ok none e) l2 acc e else .ok acc e) l [] e0).bind fun acc e => .ok (.lst true acc) (back e0 e own)) else .no
  | .dc k v tg it ifs own => fun e => (evi it e).bind fun l e0 => if plainAt e0 own && tgIn tg own then noEx ((turnsD own (fun x e => (asg tg x e).bind fun _ e => (evT ifs e).bind fun b e =>
      if b then (strong (isRd k) (ev k) e).bind fun t e => (strong (isRd v) (ev v) e).bind fun u e => .ok (some (fz t, fz u)) e else .ok none e) l [] e0).bind fun acc e => .ok (.dic true acc) (back e0 e own)) else .no
  | .pop i => popM i
  | .gdct g => need ((c.glos[g]?).bind fun t => match t with
    | .dic _ l => some (.dic true l)
    | _ => none)
  | .lvals a => fun e => (opd (isRd a) (ev a) e).bind fun o e => fin1 o (fun t => match t with
    | .dic _ l => some (.lst true (l.map fun p => sh1 p.2))
    | _ => none) e
/-- values to be kept: frozen -/
def evs : Es → M (List T)
  | .nil => fun e => .ok [] e
  | .cons a es => fun e => (strong (isRd a) (ev a) e).bind fun t e => (evs es e).bind fun l e => .ok (fz t :: l) e
/-- keys and values, by turns -/
def evp : Es → List (T × T) → M (List (T × T))
  | .nil, acc => fun e => .ok acc e
  | .cons k es, acc => match es with
    | .cons v r => fun e => (strong (isRd k) (ev k) e).bind fun t e => (strong (isRd v) (ev v) e).bind fun u e => if kind? (fz t) == some false then evp r (dput acc (fz t) (fz u)) e else .no
    | .nil => fun _ => .no
def evAnd : Es → M T
  | .nil => fun _ => .no
  | .cons a es => match es with
    | .nil => strong (isRd a) (ev a)
    | .cons _ _ => fun e => (strong (isRd a) (ev a) e).bind fun t e => match tru t with
      | some true => evAnd es e
      | some false => .ok t e
      | none => .no
def evOr : Es → M T
  | .nil => fun _ => .no
  | .cons a es => match es with
    | .nil => strong (isRd a) (ev a)
    | .cons _ _ => fun e => (strong (isRd a) (ev a) e).bind fun t e => match tru t with
      | some true => .ok t e
      | some false => evOr es e
      | none => .no
/-- tests of a comprehension -/
def evT : Es → M Bool
  | .nil => fun e => .ok true e
  | .cons a es => fun e => (opd (isRd a) (ev a) e).bind fun o e => (fin1 o (fun t => (tru t).map .bl) e).bind fun t e => match t with
    | .bl true => evT es e
    | .bl false => .ok false e
    | _ => .no
def evo : Eo → M (Option Int)
  | .non => fun e => .ok none e
  | .som a => fun e => (strong (isRd a) (ev a) e).bind fun t e => match t with
    | .int i => .ok (some i) e
    | _ => .no
def eva : As → M (List (T ⊕ Nat))
  | .nil => fun e => .ok [] e
  | .val a as => fun e => (strong (isRd a) (ev a) e).bind fun t e => (eva as e).bind fun l e => .ok (.inl (fz t) :: l) e
  | .mut i as => fun e => match (e[i]?).bind id with
    | some _ => (eva as e).bind fun l e => .ok (.inr i :: l) e
    | none => .no
  | .tmp a as => fun e => (strong (isRd a) (ev a) e).bind fun t e => (eva as e).bind fun l e => .ok (.inl t :: l) e
def evi : It → M (List T)
  | .of a => fun e => (strong (isRd a) (ev a) e).bind fun t e => need (walk? (fz t)) e
  | .rng a => fun e => (strong (isRd a) (ev a) e).bind fun t e => need (rngT (.int 0) t) e
  | .rng2 a b => fun e => (strong (isRd a) (ev a) e).bind fun t e => (strong (isRd b) (ev b) e).bind fun u e => need (rngT t u) e
  | .enu a => fun e => (strong (isRd a) (ev a) e).bind fun t e => need ((seq? (fz t)).map (enumT 0)) e
  | .zip a b => fun e => (strong (isRd a) (ev a) e).bind fun t e => (strong (isRd b) (ev b) e).bind fun u e => need ((seq? (fz t)).bind fun l => (seq? (fz u)).map fun m => zipT l m) e
  | .vals a => fun e => (strong (isRd a) (ev a) e).bind fun t e => need (match fz t with
    | .dic _ l => some (l.map (·.2))
    | _ => none) e
  | .items a => fun e => (strong (isRd a) (ev a) e).bind fun t e => need (match fz t with
    | .dic _ l => some (l.map fun p => .tup [p.1, p.2])
    | _ => none) e
end
end

/-! ### statements -/
inductive Fl where
  | nx | brk | cnt
  | ret (t : T)
def forL (tg : T → M Unit) (body : M Fl) : List T → M Fl
  | [] => fun e => .ok .nx e
  | x :: r => fun e => (tg x e).bind fun _ e => (body e).bind fun f e => match f with
    | .nx => forL tg body r e
    | .cnt => forL tg body r e
    | .brk => .ok .nx e
    | .ret t => .ok (.ret t) e
def whlL (q : M Bool) (body : M Fl) : Nat → M Fl
  | 0 => fun _ => .no
  | n + 1 => fun e => (q e).bind fun b e => if b then (body e).bind fun f e => match f with
    | .nx => whlL q body n e
    | .cnt => whlL q body n e
    | .brk => .ok .nx e
    | .ret t => .ok (.ret t) e
    else .ok .nx e
abbrev many : Nat := 4611686018427387904
def testM (r : Option Nat) (m : M T) : M Bool := fun e => (opd r m e).bind fun o e => match o.get e with
  | some t => need (tru t) e
  | none => .no
def setL (l : List T) (i : Int) (t : T) : Option (List T) := (ixn l.length i).map fun j => l.set j t
/-- var[k] = t -/
def putM1 (i : Nat) (k t : T) : M Unit := fun e => match (e[i]?).bind id with
  | some (.lst true l) => match k with
    | .int z => match setL l z (fz t) with
      | some l' => .ok () (e.set i (some (.lst true l')))
      | none => .no
    | _ => .no
  | _ => .no
def isOwnL (e : Env) (i : Nat) : Bool := match (e[i]?).bind id with
  | some (.lst true _) => true
  | _ => false
def kept (b : Bool) (t : T) : T := match b, t with
  | true, .lst o l => .lst o l
  | _, t => fz t
def appM (i : Nat) (t : T) : M Unit := fun e => match (e[i]?).bind id with
  | some (.lst true l) => if l.length < line then .ok () (e.set i (some (.lst true (l ++ [fz t])))) else .no
  | _ => .no
def appKM (i : Nat) (k t : T) : M Unit := fun e => match (e[i]?).bind id with
  | some (.dic true d) => match (if kindD d k then dget d k else none) with
    | some (.lst true l) => if l.length < line then .ok () (e.set i (some (.dic true (dput d k (.lst true (l ++ [fz t])))))) else .no
    | _ => .no
  | _ => .no
def dmerge (l : List (T × T)) : List (T × T) → Option (List (T × T))
  | [] => some l
  | p :: r => if kindD l p.1 then dmerge (dput l p.1 (fz1 p.2)) r else none
def updM (i : Nat) (t : T) : M Unit := fun e => match (e[i]?).bind id, fz t with
  | some (.dic true l), .dic _ m => match dmerge l m with
    | some l' => if l'.length ≤ line then .ok () (e.set i (some (.dic true l'))) else .no
    | none => .no
  | _, _ => .no
def keepVals : Es → List T → List T := fun _ l => l
def parM : List Nat → List T → M Unit
  | [], [] => fun e => .ok () e
  | i :: is, t :: l => fun e => (setVar i t e).bind fun _ e => parM is l e
  | _, _ => fun _ => .no
section
variable (c : Cfg)
/-- values, as they come -/
def evk : Es → M (List T)
  | .nil => fun e => .ok [] e
  | .cons a es => fun e => (strong (isRd a) (ev c a) e).bind fun t e => (evk es e).bind fun l e => .ok (t :: l) e
def putsM : Ps → List T → M Unit
  | .nil, [] => fun e => .ok () e
  | .cons i k b ps, t :: l => fun e => (strong (isRd k) (ev c k) e).bind fun z e => (putM1 i (fz z) (kept b t) e).bind fun _ e => putsM ps l e
  | _, _ => fun _ => .no
mutual
def ex : S → M Fl
  | .pass => fun e => .ok .nx e
  | .brk => fun e => .ok .brk e
  | .cnt => fun e => .ok .cnt e
  | .asg i a => fun e => (strong (isRd a) (ev c a) e).bind fun t e => (setVar i t e).bind fun _ e => .ok .nx e
  | .asgT tg a => fun e => (strong (isRd a) (ev c a) e).bind fun t e => (asg tg (fz t) e).bind fun _ e => .ok .nx e
  | .par is es => fun e => (evk c es e).bind fun l e => (parM is l e).bind fun _ e => .ok .nx e
  | .put i k a b => fun e => (strong (isRd a) (ev c a) e).bind fun t e => if isOwnL e i then (strong (isRd k) (ev c k) e).bind fun z e => (putM1 i (fz z) (kept b t) e).bind fun _ e => .ok .nx e else .no
  | .putM ps es => fun e => (evk c es e).bind fun l e => (putsM c ps l e).bind fun _ e => .ok .nx e
  | .app i a => fun e => if isOwnL e i then (strong (isRd a) (ev c a) e).bind fun t e => (appM i t e).bind fun _ e => .ok .nx e else .no
  | .appK i k a => fun e => (strong (isRd a) (ev c a) e).bind fun t e => (appKM i k t e).bind fun _ e => .ok .nx e
  | .upd i a => fun e => (strong (isRd a) (ev c a) e).bind fun t e => (updM i t e).bind fun _ e => .ok .nx e
  | .exp a => fun e => (strong (isRd a) (ev c a) e).bind fun _ e => .ok .nx e
  | .ifs q a b => fun e => (testM (isRd q) (ev c q) e).bind fun k e => if k then exs a e else exs b e
  | .whl q b => whlL (testM (isRd q) (ev c q)) (exs b) many
  | .for tg it b => fun e => (evi c it e).bind fun l e => forL (asg tg) (exs b) l e
  | .ret a => fun e => (strong (isRd a) (ev c a) e).bind fun t e => .ok (.ret t) e
  | .retv i => fun e => match (e[i]?).bind id with
    | some t => .ok (.ret t) (e.set i none)
    | none => .no
  | .retN => fun e => .ok (.ret .non) e
  | .rai k .non => fun e => .ex k .non e
  | .rai k (.som a) => fun e => (strong (isRd a) (ev c a) e).bind fun t e => .ex k (fz t) e
def exs : Ss → M Fl
  | .nil => fun e => .ok .nx e
  | .cons s ss => fun e => (ex s e).bind fun f e => match f with
    | .nx => exs ss e
    | f => .ok f e
end
end
/-! ### a program -/
structure Def where
  name : PySem.Str
  ps : List PySem.Str
  ns : List PySem.Str
  ms : List Nat
  body : Ss
structure Prog where
  glos : List (PySem.Str × T)
  defs : List Def
/-- what a caller gets back: of the parameters that are handed in and out -/
def outsOf (d : Def) (e : Env) : Env := (List.range d.ps.length).map fun i => if d.ms.contains i then (e[i]?).bind id else none
def Def.run (d : Def) (c : Cfg) (ts : List T) : CR :=
  if ts.length = d.ps.length then (match exs c d.body (ts.map some ++ List.replicate (d.ns.length - d.ps.length) none) with
    | .no => .no
    | .ok (.ret t) e => .ret t (outsOf d e)
    | .ok .nx e => .ret .non (outsOf d e)
    | .ok _ _ => .no
    | .ex k x e => .ex k x (outsOf d e)) else .no
def Prog.tab (p : Prog) : Nat → Nat → List T → CR
  | 0, _, _ => .no
  | n + 1, f, ts => match p.defs[f]? with
    | some d => d.run ⟨p.glos.map (·.2), p.tab n⟩ ts
    | none => .no
end Vi

set_option autoImplicit false
set_option Elab.async false
set_option linter.all false
set_option maxRecDepth 100000
/-! VI over the layer: what a value of the model stands for. -/
namespace Vi
open PySem PySem.Spec PyProof.Rows L2

def sOf (s : List Nat) : Str := ⟨s.toArray⟩
/-- a text that the model holds -/
def okS (s : List Nat) : Prop := s.length ≤ line ∧ ∀ c ∈ s, c < 1114112
def keyT : Key → T
  | .inl i => .int i
  | .inr s => .str s.cps.toList
mutual
def nk : T → NestedKey
  | .int i => .num i
  | .str s => .text (sOf s)
  | .tup l => .tup (nks l)
  | _ => .none
def nks : List T → List NestedKey
  | [] => []
  | a :: r => nk a :: nks r
end
/-- a dict whose keys are tuples, at a: the keys' places and the values -/
def KeyedAt (P : Program) (w : World) (a : Addr) (xs : List (NestedKey × Addr × V)) (h : Heap) : Prop :=
  (a == sysModules) = false ∧ xs.length ≤ sizeLine ∧ ∃ ys : List (NestedKey × Addr × Value), Paired (fun (p : NestedKey × Addr × V) (q : NestedKey × Addr × Value) => p.1 = q.1 ∧ p.2.1 = q.2.1 ∧ RelV p.2.2 q.2.2) xs ys ∧
    ∃ o es ep, h.get? a = some o ∧ o.ExactDict ∧ o.data = .dict es ep ∧ es.toList = ys.map (entryOfKey (nestedKind P w)) ∧ (ys.map (·.1)).Nodup
def keyedO (P : Program) (w : World) (a : Addr) (xs : List (NestedKey × Addr × V)) : HO := .ext (KeyedAt P w a xs)

/-- the world of a relation: the program, the written part, what is shared -/
structure Rw where
  P : Program
  w : World
  K : PySem.W.Frag
/-- a value that is never changed again stands for a plain one -/
inductive Rp (Z : Rw) (Sh : Hp) : V → T → Prop where
  | non : Rp Z Sh .non .non
  | und (v : V) : Rp Z Sh v .und
  | bl (b : Bool) : Rp Z Sh (.bl b) (.bl b)
  | int (i : Int) : Rp Z Sh (.int i) (.int i)
  | str (s : List Nat) (h : okS s) : Rp Z Sh (.str (sOf s)) (.str s)
  | tup {a : Addr} {vs : List V} {ts : List T} (h : SqT Z.K Sh a vs) (hl : vs.length = ts.length) (hs : ∀ (i : Nat) (v : V) (t : T), vs[i]? = some v → ts[i]? = some t → Rp Z Sh v t) : Rp Z Sh (.ref a) (.tup ts)
  | lst {a : Addr} {vs : List V} {ts : List T} (h : SqL Z.K Sh a vs) (hl : vs.length = ts.length) (hs : ∀ (i : Nat) (v : V) (t : T), vs[i]? = some v → ts[i]? = some t → Rp Z Sh v t) : Rp Z Sh (.ref a) (.lst false ts)
  | dic0 {a : Addr} {od : Obj} {kvs : List (Key × V)} {l : List (T × T)} (h : Sh a = some (.frz od (.dK kvs))) (hl : kvs.length = l.length) (hk : kvs.map (fun p => keyT p.1) = l.map (·.1))
      (hs : ∀ (i : Nat) (p : Key × V) (q : T × T), kvs[i]? = some p → l[i]? = some q → Rp Z Sh p.2 q.2) : Rp Z Sh (.ref a) (.dic false l)
  | dic1 {a : Addr} {od : Obj} {xs : List (NestedKey × Addr × V)} {l : List (T × T)} (h : Sh a = some (.frz od (keyedO Z.P Z.w a xs))) (hl : xs.length = l.length) (hk : xs.map (·.1) = l.map (fun q => nk q.1)) (hp : l ≠ [] ∧ ∀ q ∈ l, kind? q.1 = some true)
      (hr : ∀ (i : Nat) (p : NestedKey × Addr × V) (q : T × T), xs[i]? = some p → l[i]? = some q → Rp Z Sh (.ref p.2.1) q.1)
      (hs : ∀ (i : Nat) (p : NestedKey × Addr × V) (q : T × T), xs[i]? = some p → l[i]? = some q → Rp Z Sh p.2.2 q.2) : Rp Z Sh (.ref a) (.dic false l)

/-- values, one by one -/
def RpL (Z : Rw) (Sh : Hp) (vs : List V) (ts : List T) : Prop := vs.length = ts.length ∧ ∀ (i : Nat) (v : V) (t : T), vs[i]? = some v → ts[i]? = some t → Rp Z Sh v t
section
variable {Z : Rw} {Sh Sh' H H' : Hp}
theorem RpL.nil : RpL Z Sh [] [] := ⟨rfl, fun i v t h _ => by simp at h⟩
theorem RpL.cons {v : V} {t : T} {vs : List V} {ts : List T} (h : Rp Z Sh v t) (r : RpL Z Sh vs ts) : RpL Z Sh (v :: vs) (t :: ts) := ⟨by simp [r.1], fun i w u h1 h2 => by
  cases i with
  | zero => simp at h1 h2; subst h1; subst h2; exact h
  | succ i => exact r.2 i w u (by simpa using h1) (by simpa using h2)⟩
theorem RpL.head {v : V} {t : T} {vs : List V} {ts : List T} (r : RpL Z Sh (v :: vs) (t :: ts)) : Rp Z Sh v t := r.2 0 v t rfl rfl
theorem RpL.tail {v : V} {t : T} {vs : List V} {ts : List T} (r : RpL Z Sh (v :: vs) (t :: ts)) : RpL Z Sh vs ts := ⟨by have := r.1; simpa using this, fun i w u h1 h2 => r.2 (i + 1) w u (by simpa using h1) (by simpa using h2)⟩
theorem RpL.inv_nil {vs : List V} (r : RpL Z Sh vs []) : vs = [] := List.length_eq_zero_iff.mp r.1
theorem RpL.inv_cons {vs : List V} {t : T} {ts : List T} (r : RpL Z Sh vs (t :: ts)) : ∃ v vr, vs = v :: vr ∧ Rp Z Sh v t ∧ RpL Z Sh vr ts := by
  cases vs with
  | nil => exact absurd r.1 (by simp)
  | cons v vr => exact ⟨v, vr, rfl, r.head, r.tail⟩
theorem RpL.get {vs : List V} {ts : List T} (r : RpL Z Sh vs ts) {i : Nat} {t : T} (h : ts[i]? = some t) : ∃ v, vs[i]? = some v ∧ Rp Z Sh v t := by
  obtain ⟨hi, e⟩ := List.getElem?_eq_some_iff.mp h
  have hv : i < vs.length := by rw [r.1]; exact hi
  exact ⟨vs[i], List.getElem?_eq_getElem hv, r.2 i _ _ (List.getElem?_eq_getElem hv) h⟩
theorem RpL.append {vs us : List V} {ts ws : List T} (r : RpL Z Sh vs ts) (q : RpL Z Sh us ws) : RpL Z Sh (vs ++ us) (ts ++ ws) := ⟨by simp [r.1, q.1], fun i v t h1 h2 => by
  by_cases hi : i < vs.length
  · rw [List.getElem?_append_left hi] at h1
    rw [List.getElem?_append_left (by rw [← r.1]; exact hi)] at h2
    exact r.2 i v t h1 h2
  · rw [List.getElem?_append_right (by omega)] at h1
    rw [List.getElem?_append_right (by rw [← r.1]; omega), ← r.1] at h2
    exact q.2 _ v t h1 h2⟩
theorem RpL.take {vs : List V} {ts : List T} (r : RpL Z Sh vs ts) (n : Nat) : RpL Z Sh (vs.take n) (ts.take n) := ⟨by simp [r.1], fun i v t h1 h2 => by
  rw [List.getElem?_take] at h1 h2
  by_cases hi : i < n
  · rw [if_pos hi] at h1 h2; exact r.2 i v t h1 h2
  · rw [if_neg hi] at h1; cases h1⟩
theorem RpL.drop {vs : List V} {ts : List T} (r : RpL Z Sh vs ts) (n : Nat) : RpL Z Sh (vs.drop n) (ts.drop n) := ⟨by simp [r.1], fun i v t h1 h2 => by
  rw [List.getElem?_drop] at h1 h2
  exact r.2 _ v t h1 h2⟩
theorem RpL.set {vs : List V} {ts : List T} (r : RpL Z Sh vs ts) {v : V} {t : T} (h : Rp Z Sh v t) (n : Nat) : RpL Z Sh (vs.set n v) (ts.set n t) := ⟨by simp [r.1], fun i w u h1 h2 => by
  rw [List.getElem?_set] at h1 h2
  by_cases hi : n = i
  · subst hi
    rw [if_pos rfl] at h1 h2
    split at h1
    · split at h2
      · cases h1; cases h2; exact h
      · cases h2
    · cases h1
  · rw [if_neg hi] at h1 h2; exact r.2 i w u h1 h2⟩
theorem RpL.dropLast {vs : List V} {ts : List T} (r : RpL Z Sh vs ts) : RpL Z Sh vs.dropLast ts.dropLast := by
  rw [List.dropLast_eq_take, List.dropLast_eq_take, r.1]
  exact r.take _

/-- what was shared stays -/
abbrev Grow (Sh Sh' : Hp) : Prop := ∀ a o, Sh a = some o → Sh' a = some o
theorem Grow.rd (g : Grow Sh Sh') {a : Addr} {u : HO} (h : Rd Sh a u) : Rd Sh' a u := by
  rcases h with h | ⟨o, h⟩
  · exact .inl (g _ _ h)
  · exact .inr ⟨o, g _ _ h⟩
theorem Grow.sqL (g : Grow Sh Sh') {K : PySem.W.Frag} {a : Addr} {xs : List V} (h : SqL K Sh a xs) : SqL K Sh' a xs := by
  rcases h with h | h
  · exact .inl (g.rd h)
  · exact .inr h
theorem Grow.sqT (g : Grow Sh Sh') {K : PySem.W.Frag} {a : Addr} {xs : List V} (h : SqT K Sh a xs) : SqT K Sh' a xs := by
  rcases h with h | h
  · exact .inl (g.rd h)
  · exact .inr h
theorem Grow.sqLL {K : PySem.W.Frag} {Sh Sh' : Hp} {a : Addr} {xs : List V} (g : Grow Sh Sh') (h : SqL K Sh a xs) : SqL K Sh' a xs := by
  rcases h with h | h
  · exact .inl (g.rd h)
  · exact .inr h
theorem Rp.mono (g : Grow Sh Sh') {v : V} {t : T} (h : Rp Z Sh v t) : Rp Z Sh' v t := by
  induction h with
  | non => exact .non
  | und v => exact .und v
  | bl b => exact .bl b
  | int i => exact .int i
  | str s h => exact .str s h
  | tup h hl _ ih => exact .tup (g.sqT h) hl ih
  | lst h hl _ ih => exact .lst (Grow.sqLL g h) hl ih
  | dic0 h hl hk _ ih => exact .dic0 (g _ _ h) hl hk ih
  | dic1 h hl hk hp _ _ ih1 ih2 => exact .dic1 (g _ _ h) hl hk hp ih1 ih2
theorem RpL.mono (g : Grow Sh Sh') {vs : List V} {ts : List T} (h : RpL Z Sh vs ts) : RpL Z Sh' vs ts := ⟨h.1, fun i v t h1 h2 => (h.2 i v t h1 h2).mono g⟩
end
/-- a dict's values: shared, or lists of its own (at these places) -/
inductive VRep (Z : Rw) (Sh H : Hp) : List V → List T → List Addr → Prop where
  | nil : VRep Z Sh H [] [] []
  | sh {v : V} {t : T} {vs : List V} {ts : List T} {B : List Addr} (h : Rp Z Sh v t) (r : VRep Z Sh H vs ts B) : VRep Z Sh H (v :: vs) (t :: ts) B
  | own {a : Addr} {us : List V} {ls : List T} {vs : List V} {ts : List T} {B : List Addr} (h : H a = some (.lst us)) (n : Sh a = none) (q : RpL Z Sh us ls) (r : VRep Z Sh H vs ts B) : VRep Z Sh H (.ref a :: vs) (.lst true ls :: ts) (a :: B)
/-- a value of a variable: shared, or held by it alone, with the places that are its own -/
inductive Rep (Z : Rw) (Sh H : Hp) : V → T → List Addr → Prop where
  | sh {v : V} {t : T} (h : Rp Z Sh v t) : Rep Z Sh H v t []
  | lst {a : Addr} {vs : List V} {ts : List T} (h : H a = some (.lst vs)) (n : Sh a = none) (hs : RpL Z Sh vs ts) : Rep Z Sh H (.ref a) (.lst true ts) [a]
  | dic0 {a : Addr} {kvs : List (Key × V)} {l : List (T × T)} {B : List Addr} (h : H a = some (.dK kvs)) (n : Sh a = none) (hk : kvs.map (fun p => keyT p.1) = l.map (·.1)) (hs : VRep Z Sh H (kvs.map (·.2)) (l.map (·.2)) B) : Rep Z Sh H (.ref a) (.dic true l) (a :: B)
  | dic1 {a : Addr} {xs : List (NestedKey × Addr × V)} {l : List (T × T)} {B : List Addr} (h : H a = some (keyedO Z.P Z.w a xs)) (n : Sh a = none) (hk : xs.map (·.1) = l.map (fun q => nk q.1)) (hp : l ≠ [] ∧ ∀ q ∈ l, kind? q.1 = some true)
      (hr : ∀ (i : Nat) (p : NestedKey × Addr × V) (q : T × T), xs[i]? = some p → l[i]? = some q → Rp Z Sh (.ref p.2.1) q.1) (hs : VRep Z Sh H (xs.map (·.2.2)) (l.map (·.2)) B) : Rep Z Sh H (.ref a) (.dic true l) (a :: B)
section
variable {Z : Rw} {Sh Sh' H H' : Hp} {v : V} {t : T} {A B F : List Addr}
theorem VRep.mono (g : Grow Sh Sh') {vs : List V} {ts : List T} (r : VRep Z Sh H vs ts B) (hB : ∀ a ∈ B, H' a = H a ∧ Sh' a = none) : VRep Z Sh' H' vs ts B := by
  induction r with
  | nil => exact .nil
  | sh h _ ih => exact .sh (h.mono g) (ih hB)
  | own h n q _ ih =>
    obtain ⟨e1, e2⟩ := hB _ List.mem_cons_self
    exact .own (e1.trans h) e2 (q.mono g) (ih fun a ha => hB a (List.mem_cons_of_mem _ ha))
theorem Rep.mono (g : Grow Sh Sh') (r : Rep Z Sh H v t A) (hA : ∀ a ∈ A, H' a = H a ∧ Sh' a = none) : Rep Z Sh' H' v t A := by
  cases r with
  | sh h => exact .sh (h.mono g)
  | lst h n hs =>
    obtain ⟨e1, e2⟩ := hA _ List.mem_cons_self
    exact .lst (e1.trans h) e2 (hs.mono g)
  | dic0 h n hk hs =>
    obtain ⟨e1, e2⟩ := hA _ List.mem_cons_self
    exact .dic0 (e1.trans h) e2 hk (hs.mono g fun a ha => hA a (List.mem_cons_of_mem _ ha))
  | dic1 h n hk hp hr hs =>
    obtain ⟨e1, e2⟩ := hA _ List.mem_cons_self
    exact .dic1 (e1.trans h) e2 hk hp (fun i p q h1 h2 => (hr i p q h1 h2).mono g) (hs.mono g fun a ha => hA a (List.mem_cons_of_mem _ ha))
theorem VRep.there {vs : List V} {ts : List T} (r : VRep Z Sh H vs ts B) : ∀ a ∈ B, Sh a = none ∧ ∃ o, H a = some o := by
  induction r with
  | nil => intro a h; simp at h
  | sh _ _ ih => exact ih
  | own h n _ _ ih =>
    intro a ha
    rcases List.mem_cons.mp ha with rfl | ha
    · exact ⟨n, _, h⟩
    · exact ih a ha
theorem Rep.there (r : Rep Z Sh H v t A) : ∀ a ∈ A, Sh a = none ∧ ∃ o, H a = some o := by
  cases r with
  | sh h => intro a ha; simp at ha
  | lst h n hs => intro a ha; obtain rfl : a = _ := by simpa using ha
                  exact ⟨n, _, h⟩
  | dic0 h n hk hs =>
    intro a ha
    rcases List.mem_cons.mp ha with rfl | ha
    · exact ⟨n, _, h⟩
    · exact hs.there a ha
  | dic1 h n hk hp hr hs =>
    intro a ha
    rcases List.mem_cons.mp ha with rfl | ha
    · exact ⟨n, _, h⟩
    · exact hs.there a ha
theorem Rep.shared (r : Rep Z Sh H v t A) (h : own t = false) : Rp Z Sh v t ∧ A = [] := by
  cases r with
  | sh h => exact ⟨h, rfl⟩
  | lst _ _ _ => cases h
  | dic0 _ _ _ _ => cases h
  | dic1 _ _ _ _ _ _ => cases h

/-- the state: what is shared (Sh), what others hold (F: callers, values in flight), slots that keep their value (ms), the variables -/
structure SR (Z : Rw) (Sh : Hp) (F : List Addr) (ms : List (Nat × V)) (σ : L2.St) (H : Hp) (env : Env) : Prop where
  len : σ.length = env.length
  sub : ∀ a o, Sh a = some o → H a = some o
  slots : ∃ A : Nat → List Addr, (∀ i t, (env[i]?).bind id = some t → ∃ v, σ[i]? = some (some v) ∧ Rep Z Sh H v t (A i)) ∧ (∀ i, (A i).Nodup ∧ ∀ a ∈ A i, a ∉ F) ∧ ∀ i j, i ≠ j → ∀ a ∈ A i, a ∉ A j
  fr : F.Nodup ∧ ∀ a ∈ F, Sh a = none ∧ ∃ o, H a = some o
  ms : ∀ p ∈ ms, σ[p.1]? = some (some p.2)
/-- what a step leaves as it was -/
structure Aft (Sh : Hp) (F : List Addr) (H Sh' H' : Hp) : Prop where
  grow : Grow Sh Sh'
  keep : ∀ a ∈ F, H' a = H a
theorem Aft.refl {Sh : Hp} {F : List Addr} {H : Hp} : Aft Sh F H Sh H := ⟨fun _ _ h => h, fun _ _ => rfl⟩
theorem Aft.trans {Sh1 H1 : Hp} (a : Aft Sh F H Sh1 H1) (b : Aft Sh1 F H1 Sh' H') : Aft Sh F H Sh' H' := ⟨fun x o h => b.grow x o (a.grow x o h), fun x hx => (b.keep x hx).trans (a.keep x hx)⟩
theorem Aft.less {G : List Addr} (a : Aft Sh F H Sh' H') (h : ∀ x ∈ G, x ∈ F) : Aft Sh G H Sh' H' := ⟨a.grow, fun x hx => a.keep x (h x hx)⟩
theorem SR.less {ms : List (Nat × V)} {σ : L2.St} {env : Env} (s : SR Z Sh (A ++ F) ms σ H env) : SR Z Sh F ms σ H env := by
  obtain ⟨B, h1, h2, h3⟩ := s.slots
  exact ⟨s.len, s.sub, ⟨B, h1, fun i => ⟨(h2 i).1, fun a ha hf => (h2 i).2 a ha (List.mem_append_right _ hf)⟩, h3⟩, ⟨(List.nodup_append.mp s.fr.1).2.1, fun a ha => s.fr.2 a (List.mem_append_right _ ha)⟩, s.ms⟩
/-- a value in flight stays -/
theorem Rep.stay (r : Rep Z Sh H v t A) (a : Aft Sh F H Sh' H') (hA : ∀ x ∈ A, x ∈ F) (hS : ∀ x ∈ F, Sh' x = none) : Rep Z Sh' H' v t A := r.mono a.grow fun x hx => ⟨a.keep x (hA x hx), hS x (hA x hx)⟩

variable {ms : List (Nat × V)} {σ : L2.St} {env : Env} {A' : List Addr}
/-- values in flight (A) have become others (A'): all else stands -/
theorem SR.step (s : SR Z Sh (A ++ F) ms σ H env) (g : Grow Sh Sh') (sub : ∀ a o, Sh' a = some o → H' a = some o)
    (k : ∀ a, a ∉ A → (∃ o, H a = some o) → H' a = H a ∧ (Sh a = none → Sh' a = none)) (n : ∀ a ∈ A', (a ∈ A ∨ H a = none) ∧ Sh' a = none ∧ ∃ o, H' a = some o) (nd : A'.Nodup) : SR Z Sh' (A' ++ F) ms σ H' env := by
  obtain ⟨B, h1, h2, h3⟩ := s.slots
  have hAF := List.nodup_append.mp s.fr.1
  have hF : ∀ a ∈ F, a ∉ A := fun a ha hA => hAF.2.2 a hA a ha rfl
  have ex : ∀ a ∈ F, ∃ o, H a = some o := fun a ha => (s.fr.2 a (List.mem_append_right _ ha)).2
  refine ⟨s.len, sub, ⟨fun i => if ((env[i]?).bind id).isSome then B i else [], fun i t e => ?_, fun i => ?_, fun i j hij a ha => ?_⟩, ⟨?_, fun a ha => ?_⟩, s.ms⟩
  · obtain ⟨v, e1, r⟩ := h1 i t e
    refine ⟨v, e1, ?_⟩
    simp only [e, Option.isSome_some, if_true]
    refine r.mono g fun a ha => ?_
    have hn : a ∉ A := fun hA => (h2 i).2 a ha (List.mem_append_left _ hA)
    obtain ⟨q1, q2⟩ := k a hn (r.there a ha).2
    exact ⟨q1, q2 (r.there a ha).1⟩
  · dsimp only
    split
    · rename_i hq
      obtain ⟨t, e⟩ := Option.isSome_iff_exists.mp hq
      refine ⟨(h2 i).1, fun a ha hm => ?_⟩
      rcases List.mem_append.mp hm with hm | hm
      · obtain ⟨v, _, r⟩ := h1 i t e
        rcases (n a hm).1 with z | z
        · exact (h2 i).2 a ha (List.mem_append_left _ z)
        · obtain ⟨o, q⟩ := (r.there a ha).2
          rw [z] at q; cases q
      · exact (h2 i).2 a ha (List.mem_append_right _ hm)
    · simp
  · intro hb
    dsimp only at ha hb
    split at ha
    · split at hb
      · exact h3 i j hij a ha hb
      · simp at hb
    · simp at ha
  · refine List.nodup_append.mpr ⟨nd, hAF.2.1, fun a ha b hb e => ?_⟩
    subst e
    rcases (n a ha).1 with z | z
    · exact hF a hb z
    · obtain ⟨o, q⟩ := ex a hb
      rw [z] at q; cases q
  · rcases List.mem_append.mp ha with ha | ha
    · exact (n a ha).2
    · obtain ⟨q1, q2⟩ := k a (hF a ha) (ex a ha)
      exact ⟨q2 (s.fr.2 a (List.mem_append_right _ ha)).1, by obtain ⟨o, z⟩ := ex a ha; exact ⟨o, q1.trans z⟩⟩
theorem SR.sh_none (s : SR Z Sh F ms σ H env) {p : Addr} (h : H p = none) : Sh p = none := by
  cases e : Sh p with
  | none => rfl
  | some o => rw [s.sub p o e] at h; cases h
theorem grow_upd {p : Addr} {o : HO} (h : Sh p = none) : Grow Sh (upd Sh p o) := fun a u e => by
  rw [upd_ne (ne_of_none e h)]; exact e
/-- a new object, in flight -/
theorem SR.new (s : SR Z Sh F ms σ H env) {p : Addr} {o : HO} (h : H p = none) : SR Z Sh (p :: F) ms σ (upd H p o) env := by
  have hs := s.sh_none h
  refine SR.step (A := []) (A' := [p]) s (fun _ _ e => e) (fun a u e => ?_) (fun a _ ⟨u, e⟩ => ⟨upd_ne (ne_of_none e h), fun z => z⟩) (fun a ha => ?_) (by simp)
  · rw [upd_ne (ne_of_none e hs)]; exact s.sub a u e
  · obtain rfl : a = p := by simpa using ha
    exact ⟨.inr h, hs, o, upd_same⟩
/-- a new object, shared from the start -/
theorem SR.newSh (s : SR Z Sh F ms σ H env) {p : Addr} {o : HO} (h : H p = none) : SR Z (upd Sh p o) F ms σ (upd H p o) env := by
  have hs := s.sh_none h
  refine SR.step (A := []) (A' := []) s (grow_upd hs) (fun a u e => ?_) (fun a _ ⟨u, e⟩ => ⟨upd_ne (ne_of_none e h), fun z => by rw [upd_ne (ne_of_none e h)]; exact z⟩) (fun a ha => by simp at ha) (by simp)
  by_cases q : a = p
  · subst q; rw [upd_same] at e ⊢; exact e
  · rw [upd_ne q] at e ⊢; exact s.sub a u e
theorem Aft.new (h : H' = H) : Aft Sh F H Sh H' := ⟨fun _ _ e => e, fun a _ => by rw [h]⟩
theorem SR.aft_upd (s : SR Z Sh F ms σ H env) {p : Addr} {o : HO} (h : H p = none) : Aft Sh F H Sh (upd H p o) := ⟨fun _ _ e => e, fun a ha => by
  obtain ⟨_, u, e⟩ := s.fr.2 a ha
  exact upd_ne (ne_of_none e h)⟩
theorem SR.aft_updSh (s : SR Z Sh F ms σ H env) {p : Addr} {o : HO} (h : H p = none) : Aft Sh F H (upd Sh p o) (upd H p o) := ⟨grow_upd (s.sh_none h), fun a ha => by
  obtain ⟨_, u, e⟩ := s.fr.2 a ha
  exact upd_ne (ne_of_none e h)⟩
/-- a variable's value -/
theorem SR.get (s : SR Z Sh F ms σ H env) {i : Nat} {t : T} (e : (env[i]?).bind id = some t) : ∃ v A, σ[i]? = some (some v) ∧ Rep Z Sh H v t A ∧ (∀ a ∈ A, a ∉ F) ∧ A.Nodup := by
  obtain ⟨B, h1, h2, h3⟩ := s.slots
  obtain ⟨v, e1, r⟩ := h1 i t e
  exact ⟨v, B i, e1, r, (h2 i).2, (h2 i).1⟩
/-- a variable's own object is changed, or shared -/
theorem SR.change (s : SR Z Sh F ms σ H env) {i : Nat} {t : T} (e : (env[i]?).bind id = some t) : ∃ v Ai, σ[i]? = some (some v) ∧ Rep Z Sh H v t Ai ∧ (∀ a ∈ Ai, a ∉ F) ∧ Ai.Nodup ∧
    ∀ (Sh' H' : Hp) (t' : T) (A' : List Addr), Grow Sh Sh' → (∀ a o, Sh' a = some o → H' a = some o) → (∀ a, a ∉ Ai → (∃ o, H a = some o) → H' a = H a ∧ (Sh a = none → Sh' a = none)) →
      Rep Z Sh' H' v t' A' → (∀ a ∈ A', a ∈ Ai ∨ H a = none) → A'.Nodup → SR Z Sh' F ms σ H' (env.set i (some t')) := by
  obtain ⟨B, h1, h2, h3⟩ := s.slots
  obtain ⟨v, e1, r⟩ := h1 i t e
  have hi : i < env.length := by
    by_cases z : i < env.length
    · exact z
    · rw [List.getElem?_eq_none (by omega)] at e; cases e
  refine ⟨v, B i, e1, r, (h2 i).2, (h2 i).1, fun Sh' H' t' A' g sub k r' n nd => ⟨by rw [List.length_set]; exact s.len, sub, ⟨fun j => if j = i then A' else if ((env[j]?).bind id).isSome then B j else [], fun j u q => ?_, fun j => ?_, fun j l hjl a ha => ?_⟩, ⟨s.fr.1, fun a ha => ?_⟩, s.ms⟩⟩
  · by_cases z : j = i
    · subst z
      rw [List.getElem?_set_self hi] at q
      cases q
      exact ⟨v, e1, by dsimp only; rw [if_pos rfl]; exact r'⟩
    · rw [List.getElem?_set_ne (Ne.symm z)] at q
      obtain ⟨w, e2, r2⟩ := h1 j u q
      refine ⟨w, e2, ?_⟩
      simp only [if_neg z, q, Option.isSome_some, if_true]
      refine r2.mono g fun a ha => ?_
      obtain ⟨q1, q2⟩ := k a (fun x => h3 j i z a ha x) (r2.there a ha).2
      exact ⟨q1, q2 (r2.there a ha).1⟩
  · by_cases z : j = i
    · dsimp only
      rw [if_pos z]
      refine ⟨nd, fun a ha hf => ?_⟩
      rcases n a ha with x | x
      · exact (h2 i).2 a x hf
      · obtain ⟨_, o, y⟩ := s.fr.2 a hf
        rw [x] at y; cases y
    · dsimp only
      rw [if_neg z]
      split
      · exact h2 j
      · simp
  · intro hb
    dsimp only at ha hb
    have far : ∀ {x : Nat} {a : Addr}, x ≠ i → ((env[x]?).bind id).isSome = true → a ∈ B x → a ∉ A' := fun {x a} hx hs hax hA' => by
      rcases n a hA' with y | y
      · exact h3 x i hx a hax y
      · obtain ⟨u, hu⟩ := Option.isSome_iff_exists.mp hs
        obtain ⟨w, _, r2⟩ := h1 x u hu
        obtain ⟨o, q⟩ := (r2.there a hax).2
        rw [y] at q; cases q
    by_cases zj : j = i
    · rw [if_pos zj] at ha
      have zl : l ≠ i := fun q => hjl (zj.trans q.symm)
      rw [if_neg zl] at hb
      split at hb
      · rename_i hs
        exact far zl hs hb ha
      · simp at hb
    · rw [if_neg zj] at ha
      split at ha
      · rename_i hs
        by_cases zl : l = i
        · rw [if_pos zl] at hb
          exact far zj hs ha hb
        · rw [if_neg zl] at hb
          split at hb
          · exact h3 j l hjl a ha hb
          · simp at hb
      · simp at ha
  · obtain ⟨q1, o, q2⟩ := s.fr.2 a ha
    have hn : a ∉ B i := fun x => (h2 i).2 a x ha
    obtain ⟨k1, k2⟩ := k a hn ⟨o, q2⟩
    exact ⟨k2 q1, o, k1.trans q2⟩
/-- a value in flight goes to a variable -/
theorem SR.store (s : SR Z Sh (A ++ F) ms σ H env) {i : Nat} {v : V} {t : T} (r : Rep Z Sh H v t A) (hi : i < env.length) (hm : ∀ p ∈ ms, p.1 ≠ i) : SR Z Sh F ms (σ.set i (some v)) H (env.set i (some t)) := by
  obtain ⟨B, h1, h2, h3⟩ := s.slots
  have hAF := List.nodup_append.mp s.fr.1
  refine ⟨by rw [List.length_set, List.length_set]; exact s.len, s.sub, ⟨fun j => if j = i then A else B j, fun j u q => ?_, fun j => ?_, fun j l hjl a ha hb => ?_⟩, ⟨hAF.2.1, fun a ha => s.fr.2 a (List.mem_append_right _ ha)⟩, fun p hp => ?_⟩
  · by_cases z : j = i
    · subst z
      rw [List.getElem?_set_self hi] at q
      cases q
      exact ⟨v, by rw [List.getElem?_set_self (by rw [s.len]; exact hi)], by dsimp only; rw [if_pos rfl]; exact r⟩
    · rw [List.getElem?_set_ne (Ne.symm z)] at q
      obtain ⟨w, e2, r2⟩ := h1 j u q
      exact ⟨w, by rw [List.getElem?_set_ne (Ne.symm z)]; exact e2, by dsimp only; rw [if_neg z]; exact r2⟩
  · by_cases z : j = i
    · dsimp only
      rw [if_pos z]
      exact ⟨hAF.1, fun a ha hf => hAF.2.2 a ha a hf rfl⟩
    · dsimp only
      rw [if_neg z]
      exact ⟨(h2 j).1, fun a ha hf => (h2 j).2 a ha (List.mem_append_right _ hf)⟩
  · dsimp only at ha hb
    by_cases zj : j = i
    · rw [if_pos zj] at ha
      have zl : l ≠ i := fun q => hjl (zj.trans q.symm)
      rw [if_neg zl] at hb
      exact (h2 l).2 a hb (List.mem_append_left _ ha)
    · rw [if_neg zj] at ha
      by_cases zl : l = i
      · rw [if_pos zl] at hb
        exact (h2 j).2 a ha (List.mem_append_left _ hb)
      · rw [if_neg zl] at hb
        exact h3 j l hjl a ha hb
  · rw [List.getElem?_set_ne (Ne.symm (hm p hp))]
    exact s.ms p hp
/-- a variable's value is taken out -/
theorem SR.take (s : SR Z Sh F ms σ H env) {i : Nat} {t : T} (e : (env[i]?).bind id = some t) : ∃ v A, σ[i]? = some (some v) ∧ Rep Z Sh H v t A ∧ SR Z Sh (A ++ F) ms σ H (env.set i none) := by
  obtain ⟨B, h1, h2, h3⟩ := s.slots
  obtain ⟨v, e1, r⟩ := h1 i t e
  refine ⟨v, B i, e1, r, by rw [List.length_set]; exact s.len, s.sub, ⟨fun j => if j = i then [] else B j, fun j u q => ?_, fun j => ?_, fun j l hjl a ha hb => ?_⟩, ⟨List.nodup_append.mpr ⟨(h2 i).1, s.fr.1, fun a ha b hb z => (h2 i).2 a ha (z ▸ hb)⟩, fun a ha => ?_⟩, s.ms⟩
  · by_cases z : j = i
    · subst z
      have hi : j < env.length := by
        by_cases z : j < env.length
        · exact z
        · rw [List.getElem?_eq_none (by omega)] at e; cases e
      rw [List.getElem?_set_self hi] at q
      cases q
    · rw [List.getElem?_set_ne (Ne.symm z)] at q
      obtain ⟨w, e2, r2⟩ := h1 j u q
      exact ⟨w, e2, by dsimp only; rw [if_neg z]; exact r2⟩
  · by_cases z : j = i
    · dsimp only
      rw [if_pos z]; simp
    · dsimp only
      rw [if_neg z]
      refine ⟨(h2 j).1, fun a ha hm => ?_⟩
      rcases List.mem_append.mp hm with hm | hm
      · exact h3 j i z a ha hm
      · exact (h2 j).2 a ha hm
  · dsimp only at ha hb
    by_cases zj : j = i
    · rw [if_pos zj] at ha; simp at ha
    · rw [if_neg zj] at ha
      by_cases zl : l = i
      · rw [if_pos zl] at hb; simp at hb
      · rw [if_neg zl] at hb
        exact h3 j l hjl a ha hb
  · rcases List.mem_append.mp ha with ha | ha
    · exact r.there a ha
    · exact s.fr.2 a ha
end
end Vi

set_option autoImplicit false
set_option Elab.async false
set_option linter.all false
set_option maxRecDepth 100000
/-! VI: readings, operands, operators. -/
namespace Vi
open PySem PySem.Spec PyProof.Rows L2

def Out {α : Type} (r : R α) (P : α → Env → Prop) (X : Nat → T → Env → Prop) : Prop := match r with
  | .no => False
  | .ok a e => P a e
  | .ex c d e => X c d e
theorem Out.bind {α β : Type} {r : R α} {f : α → Env → R β} {P : β → Env → Prop} {X : Nat → T → Env → Prop} (h : Out (r.bind f) P X) : Out r (fun a e => Out (f a e) P X) X := by
  cases r with
  | no => exact h
  | ok a e => exact h
  | ex c d e => exact h
theorem Out.imp {α : Type} {r : R α} {P Q : α → Env → Prop} {X Y : Nat → T → Env → Prop} (h : Out r P X) (hp : ∀ a e, P a e → Q a e) (hx : ∀ c d e, X c d e → Y c d e) : Out r Q Y := by
  cases r with
  | no => exact h
  | ok a e => exact hp a e h
  | ex c d e => exact hx c d e h
/-- what is wanted of an exception -/
structure Xp (Z : Rw) where
  p : Hp → List Addr → List (Nat × V) → Hp → Nat → T → Env → Prop
  mono : ∀ {Sh Sh' H H' : Hp} {F : List Addr} (A : List Addr) {ms : List (Nat × V)} {k : Nat} {d : T} {e : Env}, Aft Sh F H Sh' H' → p Sh F ms H k d e → p Sh' (A ++ F) ms H' k d e
/-- none may come -/
def Xp.none (Z : Rw) : Xp Z := ⟨fun _ _ _ _ _ _ _ => False, fun {_ _ _ _ _} _ {_ _ _ _} _ h => h⟩

section
variable {Z : Rw} {xp : Xp Z}
/-- what a value in flight is to be -/
def ORep (Z : Rw) (σ : L2.St) (Sh H : Hp) (v : V) (o : O) (A : List Addr) : Prop := match o with
  | .v t => Rep Z Sh H v t A
  | .r i => A = [] ∧ σ[i]? = some (some v)
/-- an expression by its meaning: a value that is one's own -/
def rS (Z : Rw) (xp : Xp Z) (m : M T) : TE := fun σ H Q => ∃ Sh F ms env, SR Z Sh F ms σ H env ∧
  Out (m env) (fun t env' => ∀ v H' Sh' A, SR Z Sh' (A ++ F) ms σ H' env' → Rep Z Sh' H' v t A → Aft Sh F H Sh' H' → Q v H') (xp.p Sh F ms H)
/-- an operand -/
def rO (Z : Rw) (xp : Xp Z) (m : M O) : TE := fun σ H Q => ∃ Sh F ms env, SR Z Sh F ms σ H env ∧
  Out (m env) (fun o env' => ∀ v H' Sh' A, SR Z Sh' (A ++ F) ms σ H' env' → ORep Z σ Sh' H' v o A → Aft Sh F H Sh' H' → Q v H') (xp.p Sh F ms H)
/-- a test -/
def rT (Z : Rw) (xp : Xp Z) (m : M Bool) : TT := fun σ H Q => ∃ Sh F ms env, SR Z Sh F ms σ H env ∧
  Out (m env) (fun b env' => ∀ H' Sh', SR Z Sh' F ms σ H' env' → Aft Sh F H Sh' H' → Q b H') (xp.p Sh F ms H)
end
theorem peI {X : Cx} {e : Expr} {t t' : TE} (h : PE X e t) (w : ∀ σ H Q, t' σ H Q → t σ H Q) : PE X e t' := ⟨fun pins s σ H Q I q => h.run pins s σ H Q I (w σ H Q q)⟩
theorem ptI {X : Cx} {e : Expr} {t t' : TT} (h : PT X e t) (w : ∀ σ H Q, t' σ H Q → t σ H Q) : PT X e t' := ⟨fun pins s σ H Q I q => h.run pins s σ H Q I (w σ H Q q)⟩
theorem pwI {X : Cx} {e : Expr} {t t' : TT} (h : PW X e t) (w : ∀ σ H Q, t' σ H Q → t σ H Q) : PW X e t' := ⟨fun wh pins s σ H Q I q => h.run wh pins s σ H Q I (w σ H Q q)⟩
theorem psI {X : Cx} {st : Stmt} {t t' : TS} (h : PS X st t) (w : ∀ D σ H, t' D σ H → t D σ H) : PS X st t' := ⟨fun pins s σ H D I q => h.run pins s σ H D I (w D σ H q)⟩
theorem pssI {X : Cx} {st : List Stmt} {t t' : TS} (h : PSs X st t) (w : ∀ D σ H, t' D σ H → t D σ H) : PSs X st t' := ⟨fun pins s σ H D I q => h.run pins s σ H D I (w D σ H q)⟩
theorem paI {X : Cx} {es : List Expr} {t t' : TA} (h : PA X es t) (w : ∀ σ H Q, t' σ H Q → t σ H Q) : PA X es t' := ⟨fun pos pins s σ H Q I q => h.run pos pins s σ H Q I (w σ H Q q)⟩

section
variable {Z : Rw} {xp : Xp Z} {X : Cx} {e a b : Expr} {m ma mb : M T} {pos : Pos}
/-! ### operands -/
theorem ORep.stay {σ : L2.St} {Sh H Sh' H' : Hp} {F A : List Addr} {v : V} {o : O} (r : ORep Z σ Sh H v o A) (h : Aft Sh F H Sh' H') (hA : ∀ x ∈ A, x ∈ F) (hS : ∀ x ∈ F, Sh' x = none) : ORep Z σ Sh' H' v o A := by
  cases o with
  | v t => exact Rep.stay r h hA hS
  | r i => exact r
theorem ORep.fin {σ : L2.St} {Sh H : Hp} {F A : List Addr} {ms : List (Nat × V)} {env : Env} {v : V} {o : O} {t : T} (r : ORep Z σ Sh H v o A) (s : SR Z Sh F ms σ H env) (e : o.get env = some t) : ∃ A, Rep Z Sh H v t A := by
  cases o with
  | v u =>
    have e : some u = some t := e
    cases e
    exact ⟨A, r⟩
  | r i =>
    obtain ⟨w, B, e1, q, _⟩ := s.get e
    obtain ⟨_, e2⟩ := r
    rw [e1] at e2; cases e2
    exact ⟨B, q⟩
theorem rO_strong (h : PE X e (rS Z xp m)) : PE X e (rO Z xp (opd none m)) := peI h fun σ H Q ⟨Sh, F, ms, env, sr, out⟩ => ⟨Sh, F, ms, env, sr, out.bind.imp (fun t env' q => q) (fun _ _ _ x => x)⟩
theorem rO_rd {i : Nat} (h : PE X e (tVar i)) : PE X e (rO Z xp (opd (some i) m)) := peI h fun σ H Q ⟨Sh, F, ms, env, sr, out⟩ => by
  show ∃ v, σ[i]? = some (some v) ∧ Q v H
  cases q : (env[i]?).bind id with
  | none =>
    simp only [opd, q] at out
    exact out.elim
  | some t =>
    simp only [opd, q] at out
    obtain ⟨v, A, e1, _⟩ := sr.get q
    exact ⟨v, e1, out v H Sh [] sr ⟨rfl, e1⟩ Aft.refl⟩
theorem out_need {α : Type} {o : Option α} {env : Env} {P : α → Env → Prop} {Y : Nat → T → Env → Prop} (h : Out (need o env) P Y) : ∃ a, o = some a ∧ P a env := by
  cases o with
  | none => exact h.elim
  | some a => exact ⟨a, rfl, h⟩
theorem out_fin1 {o : O} {f : T → Option T} {env : Env} {P : T → Env → Prop} {Y : Nat → T → Env → Prop} (h : Out (fin1 o f env) P Y) : ∃ a t, o.get env = some a ∧ f a = some t ∧ P t env := by
  unfold fin1 at h
  cases e : o.get env with
  | none => rw [e] at h; exact h.elim
  | some a =>
    rw [e] at h
    obtain ⟨t, h1, h2⟩ := out_need h
    exact ⟨a, t, rfl, h1, h2⟩
theorem out_fin2 {o p : O} {f : T → T → Option T} {env : Env} {P : T → Env → Prop} {Y : Nat → T → Env → Prop} (h : Out (fin2 o p f env) P Y) : ∃ a b t, o.get env = some a ∧ p.get env = some b ∧ f a b = some t ∧ P t env := by
  unfold fin2 at h
  cases e : o.get env with
  | none => rw [e] at h; exact h.elim
  | some a =>
    cases e2 : p.get env with
    | none => rw [e, e2] at h; exact h.elim
    | some b =>
      rw [e, e2] at h
      obtain ⟨t, h1, h2⟩ := out_need h
      exact ⟨a, b, t, rfl, rfl, h1, h2⟩
theorem out_fin3 {o p q : O} {f : T → T → T → Option T} {env : Env} {P : T → Env → Prop} {Y : Nat → T → Env → Prop} (h : Out (fin3 o p q f env) P Y) : ∃ a b c t, o.get env = some a ∧ p.get env = some b ∧ q.get env = some c ∧ f a b c = some t ∧ P t env := by
  unfold fin3 at h
  cases e : o.get env with
  | none => rw [e] at h; exact h.elim
  | some a =>
    cases e2 : p.get env with
    | none => rw [e, e2] at h; exact h.elim
    | some b =>
      cases e3 : q.get env with
      | none => rw [e, e2, e3] at h; exact h.elim
      | some c =>
        rw [e, e2, e3] at h
        obtain ⟨t, h1, h2⟩ := out_need h
        exact ⟨a, b, c, t, rfl, rfl, rfl, h1, h2⟩

/-! ### operations by values -/
/-- what is wanted of a new value -/
def Fin (Z : Rw) (Sh : Hp) (F : List Addr) (ms : List (Nat × V)) (σ : L2.St) (H : Hp) (env : Env) (t : T) (Q : VK) : Prop := ∀ v H' Sh' C, SR Z Sh' (C ++ F) ms σ H' env → Rep Z Sh' H' v t C → Aft Sh F H Sh' H' → Q v H'
def Ok2 (Z : Rw) (r : R2) (f : T → T → Option T) : Prop := ∀ (Sh : Hp) (F : List Addr) (ms : List (Nat × V)) (σ : L2.St) (H : Hp) (env : Env) (x y : V) (ta tb : T) (A B : List Addr) (t : T) (Q : VK),
  SR Z Sh F ms σ H env → Rep Z Sh H x ta A → Rep Z Sh H y tb B → f ta tb = some t → Fin Z Sh F ms σ H env t Q → r x y H Q
def Ok1 (Z : Rw) (r : V → Hp → VK → Prop) (f : T → Option T) : Prop := ∀ (Sh : Hp) (F : List Addr) (ms : List (Nat × V)) (σ : L2.St) (H : Hp) (env : Env) (x : V) (ta : T) (A : List Addr) (t : T) (Q : VK),
  SR Z Sh F ms σ H env → Rep Z Sh H x ta A → f ta = some t → Fin Z Sh F ms σ H env t Q → r x H Q
/-- a value without places of its own -/
theorem Fin.sh {Sh : Hp} {F : List Addr} {ms : List (Nat × V)} {σ : L2.St} {H : Hp} {env : Env} {t : T} {Q : VK} {v : V} (f : Fin Z Sh F ms σ H env t Q) (s : SR Z Sh F ms σ H env) (r : Rp Z Sh v t) : Q v H := f v H Sh [] s (.sh r) Aft.refl
/-- two operands, one operation -/
def mBin (ma mb : M O) (f : T → T → Option T) : M T := fun e => (ma e).bind fun o e => (mb e).bind fun p e => fin2 o p f e
theorem bin_imp {na nb : M O} {r : R2} {f : T → T → Option T} (ok : Ok2 Z r f) : ∀ σ H Q, rS Z xp (mBin na nb f) σ H Q → tOp r (rO Z xp na) (rO Z xp nb) σ H Q := fun σ H Q ⟨Sh, F, ms, env, sr, out⟩ => by
  refine ⟨Sh, F, ms, env, sr, out.bind.imp (fun o e1 h1 v1 H1 Sh1 A s1 r1 a1 => ?_) fun _ _ _ x => x⟩
  refine ⟨Sh1, A ++ F, ms, e1, s1, h1.bind.imp (fun p e2 h2 v2 H2 Sh2 B s2 r2 a2 => ?_) fun _ _ _ x => xp.mono A a1 x⟩
  obtain ⟨ta, tb, t, g1, g2, hf, fin⟩ := out_fin2 h2
  have s2' : SR Z Sh2 F ms σ H2 e2 := s2.less.less
  have q1 := r1.stay a2 (fun x hx => List.mem_append_left _ hx) (fun x hx => (s2.less.fr.2 x hx).1)
  obtain ⟨A', w1⟩ := q1.fin s2' g1
  obtain ⟨B', w2⟩ := r2.fin s2' g2
  exact ok Sh2 F ms σ H2 e2 v1 v2 ta tb A' B' t Q s2' w1 w2 hf fun v H' Sh' C s3 r3 a3 => fin v H' Sh' C s3 r3 ((a1.trans (a2.less fun x hx => List.mem_append_right _ hx)).trans a3)
def mUn (ma : M O) (f : T → Option T) : M T := fun e => (ma e).bind fun o e => fin1 o f e
theorem un_imp {na : M O} {r : V → Hp → VK → Prop} {f : T → Option T} (ok : Ok1 Z r f) : ∀ σ H Q, rS Z xp (mUn na f) σ H Q → tUn r (rO Z xp na) σ H Q := fun σ H Q ⟨Sh, F, ms, env, sr, out⟩ => by
  refine ⟨Sh, F, ms, env, sr, out.bind.imp (fun o e1 h1 v1 H1 Sh1 A s1 r1 a1 => ?_) fun _ _ _ x => x⟩
  obtain ⟨ta, t, g1, hf, fin⟩ := out_fin1 h1
  obtain ⟨A', w1⟩ := r1.fin s1.less g1
  exact ok Sh1 F ms σ H1 e1 v1 ta A' t Q s1.less w1 hf fun v H' Sh' C s3 r3 a3 => fin v H' Sh' C s3 r3 (a1.trans a3)
end
end Vi

set_option autoImplicit false
set_option Elab.async false
set_option linter.all false
set_option maxRecDepth 100000
/-! VI: each operation on values. -/
namespace Vi
open PySem PySem.Spec PyProof.Rows L2

theorem sOf_append (a b : List Nat) : sOf a ++ sOf b = sOf (a ++ b) := by
  show Str.append (sOf a) (sOf b) = _
  simp [Str.append, sOf]
theorem sOf_length (a : List Nat) : (sOf a).length = a.length := by simp [sOf, Str.length]
theorem sOf_cps (a : List Nat) : (sOf a).cps.toList = a := by simp [sOf]
theorem sOf_inj {a b : List Nat} (h : sOf a = sOf b) : a = b := by rw [← sOf_cps a, h, sOf_cps]
theorem line_eq : line = sizeLine := sizeLine_eq.symm
section
variable {Z : Rw} {Sh H : Hp} {v : V} {A F : List Addr} {ms : List (Nat × V)} {σ : L2.St} {env : Env} {Q : VK}
theorem SR.sqL (s : SR Z Sh F ms σ H env) {K : PySem.W.Frag} {a : Addr} {xs : List V} (h : SqL K Sh a xs) : SqL K H a xs := by
  rcases h with h | h
  · exact .inl (Grow.rd (Sh := Sh) (Sh' := H) s.sub h)
  · exact .inr h
theorem Rep.intI {i : Int} (r : Rep Z Sh H v (.int i) A) : v = .int i := by cases r with | sh h => cases h; rfl
theorem Rep.blI {b : Bool} (r : Rep Z Sh H v (.bl b) A) : v = .bl b := by cases r with | sh h => cases h; rfl
theorem Rep.strI {s : List Nat} (r : Rep Z Sh H v (.str s) A) : v = .str (sOf s) ∧ okS s := by cases r with | sh h => cases h with | str _ h => exact ⟨rfl, h⟩
theorem Rep.nonI (r : Rep Z Sh H v .non A) : v = .non := by cases r with | sh h => cases h; rfl
theorem SR.rd (s : SR Z Sh F ms σ H env) {a : Addr} {u : HO} (h : Rd Sh a u) : Rd H a u := Grow.rd (Sh := Sh) (Sh' := H) s.sub h
theorem SR.sqT (s : SR Z Sh F ms σ H env) {K : PySem.W.Frag} {a : Addr} {xs : List V} (h : SqT K Sh a xs) : SqT K H a xs := Grow.sqT (Sh := Sh) (Sh' := H) s.sub h
theorem Rep.tupI {ts : List T} (r : Rep Z Sh H v (.tup ts) A) (s : SR Z Sh F ms σ H env) : ∃ a vs, v = .ref a ∧ SqT Z.K H a vs ∧ RpL Z Sh vs ts ∧ SqT Z.K Sh a vs := by
  cases r with
  | sh h => cases h with | tup h hl hs => exact ⟨_, _, rfl, s.sqT h, ⟨hl, hs⟩, h⟩
theorem Rep.lstI {o : Bool} {ts : List T} (r : Rep Z Sh H v (.lst o ts) A) (s : SR Z Sh F ms σ H env) : ∃ a vs, v = .ref a ∧ SqL Z.K H a vs ∧ RpL Z Sh vs ts := by
  cases r with
  | sh h => cases h with | lst h hl hs => exact ⟨_, _, rfl, s.sqL h, ⟨hl, hs⟩⟩
  | lst h n hs => exact ⟨_, _, rfl, .inl (.inl h), hs⟩
theorem Rd.sq {K : PySem.W.Frag} {H : Hp} {a : Addr} {xs : List V} (h : SqL K H a xs) : SqL K H a xs := h
/-- a new list -/
theorem Fin.newL {ts : List T} (f : Fin Z Sh F ms σ H env (.lst true ts) Q) (s : SR Z Sh F ms σ H env) {vs : List V} (r : RpL Z Sh vs ts) {p : Addr} (h : H p = none) : Q (.ref p) (upd H p (.lst vs)) :=
  f _ _ Sh [p] (s.new h) (.lst upd_same (s.sh_none h) r) (s.aft_upd h)
/-- a new tuple -/
theorem Fin.newT {ts : List T} (f : Fin Z Sh F ms σ H env (.tup ts) Q) (s : SR Z Sh F ms σ H env) {vs : List V} (r : RpL Z Sh vs ts) {p : Addr} (h : H p = none) : Q (.ref p) (upd H p (.tup vs)) := by
  have r' := r.mono (grow_upd (o := .tup vs) (s.sh_none h))
  exact f _ _ (upd Sh p (.tup vs)) [] (s.newSh h) (.sh (.tup (.inl (.inl upd_same)) r'.1 r'.2)) (s.aft_updSh h)
end

/-! ### + -/
def rCatR (K : PySem.W.Frag) : R2 := fun x y H Q => ∃ l b xs zs, x = .ref l ∧ y = .ref b ∧ SqL K H l xs ∧ SqL K H b zs ∧ xs.length + zs.length ≤ sizeLine ∧ ∀ p, H p = none → Q (.ref p) (upd H p (.lst (xs ++ zs)))
theorem op_catR {X : Cx} : OpR X (binaryOp .Add) (rCatR X.K) := by
  intro pins s σ H x y v u Q I rx ry h
  obtain ⟨l, b, xs, zs, rfl, rfl, hH, hB, hz, q⟩ := h
  cases rx
  cases ry
  obtain ⟨its, r, p, z⟩ := I.list hH
  obtain ⟨its2, r2, p2, z2⟩ := I.list hB
  have hl := r.length
  have hl2 := r2.length
  obtain ⟨⟨cls, dd, data, sl⟩, ho, hc, n, hd⟩ := p.isList
  obtain ⟨⟨cls2, dd2, data2, sl2⟩, ho2, hc2, n2, hd2⟩ := p2.isList
  simp only at hc hd hc2 hd2
  subst hc hd hc2 hd2
  have e : its.toArray ++ its2.toArray = (its ++ its2).toArray := by simp
  refine concat_meets ⟨_, ho, rfl⟩ ⟨_, ho2, rfl⟩ noFill_list_add seq_list_add PySem.F.slot_list_add PySem.F.entry_list_add (PySem.F.args_list_add_2 _ _) (list_addW l b its.toArray its2.toArray n n2 dd dd2 sl sl2 (by rw [List.size_toArray, List.size_toArray]; omega)) ⟨ho, ho2, ?_⟩
  rw [e]
  exact ⟨.ref _, _, I.lnew (t' := s.toks) (r.append r2) (by rw [List.length_append]; omega), rfl, q _ I.fresh⟩
def rStrAdd : R2 := fun x y H Q => ∃ i j, x = .str i ∧ y = .str j ∧ i.length + j.length ≤ sizeLine ∧ Q (.str (i ++ j)) H
def rAddAll (K : PySem.W.Frag) : R2 := fun x y H Q => (rI0 (fun i j => .int (i + j)) x y H Q ∨ rStrAdd x y H Q) ∨ (rCatA K x y H Q ∨ rCatR K x y H Q)
theorem op_addAll {X : Cx} : OpR X (binaryOp .Add) (rAddAll X.K) := OpR.or (OpR.or op_add op_add_str) (OpR.or op_catA op_catR)
theorem ok_add {Z : Rw} : Ok2 Z (rAddAll Z.K) (binT .add) := by
  intro Sh F ms σ H env x y ta tb A B t Q s ra rb hf fin
  have hl := line_eq
  cases ta <;> cases tb <;> simp only [binT] at hf <;> try (cases hf; done)
  · cases hf
    cases ra.intI; cases rb.intI
    exact .inl (.inl ⟨_, _, rfl, rfl, fin.sh s (.int _)⟩)
  · split at hf
    · rename_i hz
      cases hf
      obtain ⟨rfl, o1⟩ := ra.strI
      obtain ⟨rfl, o2⟩ := rb.strI
      refine .inl (.inr ⟨_, _, rfl, rfl, by rw [sOf_length, sOf_length]; omega, ?_⟩)
      rw [sOf_append]
      exact fin.sh s (.str _ ⟨by rw [List.length_append]; exact hz, fun c hc => (List.mem_append.mp hc).elim (o1.2 c) (o2.2 c)⟩)
    · cases hf
  · split at hf
    · rename_i ts us hz
      cases hf
      obtain ⟨a, vs, rfl, q1, r1, k1⟩ := ra.tupI s
      obtain ⟨b, ws, rfl, q2, r2, k2⟩ := rb.tupI s
      refine .inr (.inl ⟨a, b, vs, ws, rfl, rfl, q1, q2, by rw [r1.1, r2.1]; omega, fun e => ?_, fun e e2 => ?_, fun _ _ p hp => fin.newT s (r1.append r2) hp⟩)
      · have e' : ts = [] := List.length_eq_zero_iff.mp (by rw [← r1.1, e]; rfl)
        subst e'
        exact fin.sh s (.tup k2 r2.1 r2.2)
      · have e' : us = [] := List.length_eq_zero_iff.mp (by rw [← r2.1, e2]; rfl)
        subst e'
        rw [List.append_nil] at fin
        exact fin.sh s (.tup k1 r1.1 r1.2)
    · cases hf
  · split at hf
    · rename_i hz
      cases hf
      obtain ⟨a, vs, rfl, q1, r1⟩ := ra.lstI s
      obtain ⟨b, ws, rfl, q2, r2⟩ := rb.lstI s
      exact .inr (.inr ⟨a, b, vs, ws, rfl, rfl, q1, q2, by rw [r1.1, r2.1]; omega, fun p hp => fin.newL s (r1.append r2) hp⟩)
    · cases hf

/-! ### other arithmetic -/
theorem ok_sub {Z : Rw} : Ok2 Z (rI0 fun i j => .int (i - j)) (binT .sub) := by
  intro Sh F ms σ H env x y ta tb A B t Q s ra rb hf fin
  cases ta <;> cases tb <;> simp only [binT] at hf <;> try (cases hf; done)
  cases hf
  cases ra.intI; cases rb.intI
  exact ⟨_, _, rfl, rfl, fin.sh s (.int _)⟩
theorem foldl_rep {α : Type} (l : Array α) : ∀ (n : Nat) (acc : List α), (List.replicate n l).foldl (· ++ ·) acc.toArray = (acc ++ (List.replicate n l.toList).flatten).toArray
  | 0, acc => by simp
  | n + 1, acc => by
    rw [List.replicate_succ, List.foldl_cons, List.replicate_succ, List.flatten_cons, ← List.append_assoc]
    have e : acc.toArray ++ l = (acc ++ l.toList).toArray := by simp
    rw [e]
    exact foldl_rep l n _
def rStrMul : R2 := fun x y H Q => ∃ (s : List Nat) (k : Int), x = .str (sOf s) ∧ y = .int k ∧ s.length ≤ 1000 ∧ 0 ≤ k ∧ k ≤ 1000 ∧ Q (.str (sOf (List.replicate k.toNat s).flatten)) H
theorem op_strMul {X : Cx} : OpR X (binaryOp .Mult) rStrMul := by
  intro pins st σ H x y v u Q I rx ry h
  obtain ⟨s, k, rfl, rfl, h1, h2, h3, q⟩ := h
  obtain ⟨t, rfl⟩ := rx
  obtain ⟨t', rfl⟩ := ry
  have hl : (sOf s).length = s.length := sOf_length s
  refine PySem.P.mul_str ?_ (fun _ _ hh => ?_) (fun _ _ => ?_) ?_
  · have e1 : ¬ k < -(2 ^ 63 : Int) := by omega
    have e2 : ¬ k ≥ 2 ^ 63 := by omega
    rw [decide_eq_false e1, decide_eq_false e2]; rfl
  · have hk : 0 < k := by omega
    have : (1000 : Int) ≤ (2 ^ 63 - 1) / k := by
      rw [Int.le_ediv_iff_mul_le hk]
      have : (1000 : Int) * k ≤ 1000000 := by omega
      omega
    omega
  · have hn : k.toNat ≤ 1000 := by omega
    have : (sOf s).length * k.toNat ≤ 1000 * 1000 := Nat.mul_le_mul (by omega) hn
    have hz := sizeLine_eq
    unfold Builtin.Str.tooLong
    first
      | exact decide_eq_false (by omega)
      | (simp; omega)
  · by_cases c1 : k < 1
    · rw [if_pos c1]
      have e : k = 0 := by omega
      subst e
      exact ⟨by decide, ⟨.str (sOf []), H, I.tok _, ⟨_, rfl⟩, q⟩⟩
    · rw [if_neg c1]
      by_cases c2 : (k == 1 || (sOf s).length == 0) = true
      · rw [if_pos c2]
        have e : (List.replicate k.toNat s).flatten = s := by
          rcases Bool.or_eq_true_iff.mp c2 with z | z
          · have : k = 1 := by simpa using z
            subst this; simp
          · have hz : s.length = 0 := by rw [← hl]; simpa using z
            have : s = [] := List.length_eq_zero_iff.mp hz
            subst this; simp
        rw [e] at q
        exact ⟨.str (sOf s), H, I, ⟨_, rfl⟩, q⟩
      · rw [if_neg c2]
        have e : (⟨(List.replicate k.toNat (sOf s).cps).foldl (· ++ ·) #[]⟩ : Str) = sOf (List.replicate k.toNat s).flatten := by
          have := foldl_rep (sOf s).cps k.toNat []
          rw [List.nil_append, sOf_cps] at this
          unfold sOf
          exact congrArg Str.mk this
        rw [e]
        refine ⟨?_, ⟨.str (sOf (List.replicate k.toNat s).flatten), H, I.tok _, ⟨_, rfl⟩, q⟩⟩
        rw [sOf_length, List.length_flatten, List.map_replicate, List.sum_replicate_nat, sizeLine_eq]
        have hn : k.toNat ≤ 1000 := by omega
        have : k.toNat * s.length ≤ 1000 * 1000 := Nat.mul_le_mul hn h1
        omega
def rMulAll (K : PySem.W.Frag) : R2 := fun x y H Q => rI CMul (fun i j => .int (i * j)) x y H Q ∨ (rRepT K x y H Q ∨ rStrMul x y H Q)
theorem op_mulAll {X : Cx} : OpR X (binaryOp .Mult) (rMulAll X.K) := OpR.or op_mul (OpR.or op_repT op_strMul)
theorem RpL.flat {Z : Rw} {Sh : Hp} {vs : List V} {ts : List T} (r : RpL Z Sh vs ts) : ∀ n : Nat, RpL Z Sh (List.replicate n vs).flatten (List.replicate n ts).flatten
  | 0 => RpL.nil
  | n + 1 => by
    rw [List.replicate_succ, List.flatten_cons, List.replicate_succ, List.flatten_cons]
    exact r.append (RpL.flat r n)
theorem ok_mul {Z : Rw} : Ok2 Z (rMulAll Z.K) (binT .mul) := by
  intro Sh F ms σ H env x y ta tb A B t Q s ra rb hf fin
  cases ta <;> cases tb <;> simp only [binT] at hf <;> try (cases hf; done)
  · split at hf
    · rename_i hz
      cases hf
      cases ra.intI; cases rb.intI
      refine .inl ⟨_, _, rfl, rfl, ?_, fin.sh s (.int _)⟩
      rcases Bool.or_eq_true_iff.mp hz with z | z
      · unfold in64 at z
        simp only [Bool.and_eq_true, decide_eq_true_eq] at z
        exact .inl ⟨by omega, by omega⟩
      · unfold in64 at z
        simp only [Bool.and_eq_true, decide_eq_true_eq] at z
        exact .inr ⟨by omega, by omega⟩
    · cases hf
  · split at hf
    · rename_i a k hz
      cases hf
      obtain ⟨rfl, h0⟩ := ra.strI
      cases rb.intI
      obtain ⟨h1, h2, h3⟩ := hz
      refine .inr (.inr ⟨_, _, rfl, rfl, h1, h2, h3, fin.sh s (.str _ ⟨?_, fun c hc => by
        obtain ⟨l, hl, hc⟩ := List.mem_flatten.mp hc
        rw [List.eq_of_mem_replicate hl] at hc
        exact h0.2 c hc⟩)⟩)
      rw [List.length_flatten, List.map_replicate, List.sum_replicate_nat]
      have hn : k.toNat ≤ 1000 := by omega
      have : k.toNat * a.length ≤ 1000 * 1000 := Nat.mul_le_mul hn h1
      show _ ≤ 16777216
      omega
    · cases hf
  · split at hf
    · rename_i a k hz
      cases hf
      obtain ⟨b, vs, rfl, q1, r1, k1⟩ := ra.tupI s
      cases rb.intI
      obtain ⟨h0, h1, h2, h3⟩ := hz
      refine .inr (.inl ⟨b, k, vs, rfl, rfl, q1, fun e => h0 (List.length_eq_zero_iff.mp (by rw [← r1.1, e]; rfl)), h1, h2, by rw [r1.1]; exact h3, fun p hp => fin.newT s (r1.flat k.toNat) hp⟩)
    · cases hf
theorem ok_fdiv {Z : Rw} : Ok2 Z (rI CDiv fun i j => .int (i / j)) (binT .fdiv) := by
  intro Sh F ms σ H env x y ta tb A B t Q s ra rb hf fin
  cases ta <;> cases tb <;> simp only [binT] at hf <;> try (cases hf; done)
  split at hf
  · rename_i hz
    cases hf
    cases ra.intI; cases rb.intI
    exact ⟨_, _, rfl, rfl, hz, fin.sh s (.int _)⟩
  · cases hf
theorem ok_mod {Z : Rw} : Ok2 Z (rI (fun _ j => 0 < j) fun i j => .int (i % j)) (binT .mod) := by
  intro Sh F ms σ H env x y ta tb A B t Q s ra rb hf fin
  cases ta <;> cases tb <;> simp only [binT] at hf <;> try (cases hf; done)
  split at hf
  · rename_i hz
    cases hf
    cases ra.intI; cases rb.intI
    exact ⟨_, _, rfl, rfl, hz, fin.sh s (.int _)⟩
  · cases hf
theorem ok_pow {Z : Rw} : Ok2 Z (rI CPow fun i j => .int (i ^ j.toNat)) (binT .pow) := by
  intro Sh F ms σ H env x y ta tb A B t Q s ra rb hf fin
  cases ta <;> cases tb <;> simp only [binT] at hf <;> try (cases hf; done)
  split at hf
  · rename_i hz
    cases hf
    cases ra.intI; cases rb.intI
    exact ⟨_, _, rfl, rfl, ⟨hz.1, hz.2.1, by have := hz.2.2; omega⟩, fin.sh s (.int _)⟩
  · cases hf
theorem ok_neg {Z : Rw} : Ok1 Z (rU fun i => .int (-i)) negT := by
  intro Sh F ms σ H env x ta A t Q s ra hf fin
  cases ta <;> simp only [negT] at hf <;> try (cases hf; done)
  cases hf
  cases ra.intI
  exact ⟨_, rfl, fin.sh s (.int _)⟩

/-! ### comparisons -/
mutual
def pd : T → PyData
  | .bl b => .bool b
  | .int i => .int i
  | .str s => .str (sOf s)
  | .tup l => .tuple (pds l)
  | .lst _ l => .list (pds l)
  | _ => .none
def pds : List T → List PyData
  | [] => []
  | a :: r => pd a :: pds r
end
theorem pds_length : ∀ l : List T, (pds l).length = l.length
  | [] => rfl
  | a :: r => by show (pds r).length + 1 = _; rw [pds_length r]; rfl
section
variable {Z : Rw} {Sh H : Hp} {F : List Addr} {ms : List (Nat × V)} {σ : L2.St} {env : Env}
theorem Rp.ofRep {v : V} {t : T} {A : List Addr} (r : Rep Z Sh H v t A) (h : own t = false) : Rp Z Sh v t := (r.shared h).1
mutual
theorem dp_of (s : SR Z Sh F ms σ H env) : ∀ (n : Nat) (t : T) (v : V), dat n t = true → Rp Z Sh v t → Dp Z.K H v (pd t)
  | _, .und, v, h, r => by simp [dat] at h
  | _, .dic _ _, v, h, r => by simp [dat] at h
  | 0, .tup l, v, h, r => by simp [dat] at h
  | 0, .lst _ l, v, h, r => by simp [dat] at h
  | n + 1, .tup l, v, h, r => by
    cases r with
    | tup hq hl hs => exact .tup (s.sqT hq) (dps_of s n l _ (by simpa [dat] using h) ⟨hl, hs⟩)
  | n + 1, .lst _ l, v, h, r => by
    cases r with
    | lst hq hl hs => exact .lst (s.sqL hq) (dps_of s n l _ (by simpa [dat] using h) ⟨hl, hs⟩)
  | _, .non, v, h, r => by cases r; exact .non
  | _, .bl b, v, h, r => by cases r; exact .bl b
  | _, .int i, v, h, r => by cases r; exact .int i
  | _, .str x, v, h, r => by cases r; exact .str _
theorem dps_of (s : SR Z Sh F ms σ H env) : ∀ (n : Nat) (l : List T) (vs : List V), dats n l = true → RpL Z Sh vs l → DpAll Z.K H vs (pds l)
  | n, [], vs, h, r => by
    rw [r.inv_nil]
    exact .nil
  | n, a :: l, vs, h, r => by
    obtain ⟨v, vr, rfl, r1, r2⟩ := r.inv_cons
    have h' : dat n a = true ∧ dats n l = true := by simpa [dats] using h
    exact .cons (dp_of s n a v h'.1 r1) (dps_of s n l vr h'.2 r2)
end
theorem dpO_of (s : SR Z Sh F ms σ H env) {n : Nat} {t : T} {v : V} {A : List Addr} (h : dat (n + 1) t = true) (r : Rep Z Sh H v t A) : Dp Z.K H v (pd t) := by
  cases r with
  | sh h' => exact dp_of s _ t v h h'
  | lst q hn hs => exact .lst (.inl (.inl q)) (dps_of s n _ _ (by simpa [dat] using h) hs)
  | dic0 _ _ _ _ => simp [dat] at h
  | dic1 _ _ _ _ _ _ => simp [dat] at h
end
section
variable {Z : Rw} {Sh : Hp}
mutual
theorem lay_of : ∀ (n : Nat) (t : T) (v : V), dat n t = true → Rp Z Sh v t → (pd t).canLay0 = true ∧ (pd t).depth ≤ n
  | _, .und, v, h, r => by simp [dat] at h
  | _, .dic _ _, v, h, r => by simp [dat] at h
  | 0, .tup l, v, h, r => by simp [dat] at h
  | 0, .lst _ l, v, h, r => by simp [dat] at h
  | n + 1, .tup l, v, h, r => by
    cases r with
    | tup hq hl hs =>
      obtain ⟨h1, h2⟩ := lays_of n l _ (by simpa [dat] using h) ⟨hl, hs⟩
      exact ⟨by simp [pd, PyData.canLay0, h1], by simp [pd, PyData.depth]; omega⟩
  | n + 1, .lst _ l, v, h, r => by
    cases r with
    | lst hq hl hs =>
      obtain ⟨h1, h2⟩ := lays_of n l _ (by simpa [dat] using h) ⟨hl, hs⟩
      exact ⟨by simp [pd, PyData.canLay0, h1], by simp [pd, PyData.depth]; omega⟩
  | _, .non, v, h, r => by simp [pd, PyData.canLay0, PyData.depth]
  | _, .bl b, v, h, r => by simp [pd, PyData.canLay0, PyData.depth]
  | _, .int i, v, h, r => by simp [pd, PyData.canLay0, PyData.depth]
  | _, .str x, v, h, r => by
    cases r with
    | str _ o =>
      refine ⟨?_, by simp [pd, PyData.depth]⟩
      simp only [pd, PyData.canLay0]
      unfold PyData.strOk
      rw [← Array.all_toList, sOf_cps]
      exact List.all_eq_true.mpr fun c hc => decide_eq_true (o.2 c hc)
theorem lays_of : ∀ (n : Nat) (l : List T) (vs : List V), dats n l = true → RpL Z Sh vs l → PyData.canLayAll0 (pds l) = true ∧ PyData.depthAll (pds l) ≤ n
  | n, [], vs, h, r => by simp [pds, PyData.canLayAll0, PyData.depthAll]
  | n, a :: l, vs, h, r => by
    obtain ⟨v, vr, rfl, r1, r2⟩ := r.inv_cons
    have h' : dat n a = true ∧ dats n l = true := by simpa [dats] using h
    obtain ⟨h1, h2⟩ := lay_of n a v h'.1 r1
    obtain ⟨h3, h4⟩ := lays_of n l vr h'.2 r2
    exact ⟨by simp [pds, PyData.canLayAll0, h1, h3], by simp [pds, PyData.depthAll]; omega⟩
end
theorem layO_of {H : Hp} {n : Nat} {t : T} {v : V} {A : List Addr} (h : dat (n + 1) t = true) (r : Rep Z Sh H v t A) : (pd t).canLay0 = true ∧ (pd t).depth ≤ n + 1 := by
  cases r with
  | sh h' => exact lay_of _ t v h h'
  | lst q hn hs =>
    obtain ⟨h1, h2⟩ := lays_of n _ _ (by simpa [dat] using h) hs
    exact ⟨by simp [pd, PyData.canLay0, h1], by simp [pd, PyData.depth]; omega⟩
  | dic0 _ _ _ _ => simp [dat] at h
  | dic1 _ _ _ _ _ _ => simp [dat] at h
theorem shaped_of {H : Hp} {n : Nat} {t : T} {v : V} {A : List Addr} (h : dat (n + 1) t = true) (r : Rep Z Sh H v t A) (hn : n + 1 ≤ 64) : SeqAt.shaped (pd t) = true := by
  obtain ⟨h1, h2⟩ := layO_of h r
  unfold SeqAt.shaped
  rw [h1, decide_eq_true (by omega)]
  rfl
end
theorem sOf_beq (a b : List Nat) : (sOf a == sOf b) = (a == b) := by
  rw [Bool.eq_iff_iff]
  simp only [beq_iff_eq]
  exact ⟨sOf_inj, fun e => by rw [e]⟩
mutual
theorem eqv_pd : ∀ (n m : Nat) (t u : T), dat n t = true → dat m u = true → PyData.eqv (pd t) (pd u) = eqb t u
  | n + 1, m + 1, .tup l, .tup k, h, q => by
    simp only [pd, PyData.eqv, eqb]
    exact eqvs_pd n m l k (by simpa [dat] using h) (by simpa [dat] using q)
  | n + 1, m + 1, .lst _ l, .lst _ k, h, q => by
    simp only [pd, PyData.eqv, eqb]
    exact eqvs_pd n m l k (by simpa [dat] using h) (by simpa [dat] using q)
  | 0, _, .tup l, _, h, q => by simp [dat] at h
  | 0, _, .lst _ l, _, h, q => by simp [dat] at h
  | _, 0, _, .tup l, h, q => by simp [dat] at q
  | _, 0, _, .lst _ l, h, q => by simp [dat] at q
  | _, _, .und, u, h, q => by simp [dat] at h
  | _, _, .dic _ _, u, h, q => by simp [dat] at h
  | _, _, t, .und, h, q => by simp [dat] at q
  | _, _, t, .dic _ _, h, q => by simp [dat] at q
  | _, _, .non, .non, h, q | _, _, .non, .bl _, h, q | _, _, .non, .int _, h, q | _, _, .non, .str _, h, q | _, _, .non, .tup _, h, q | _, _, .non, .lst _ _, h, q => by simp [pd, PyData.eqv, eqb]
  | _, _, .bl _, .non, h, q | _, _, .bl _, .bl _, h, q | _, _, .bl _, .int _, h, q | _, _, .bl _, .str _, h, q | _, _, .bl _, .tup _, h, q | _, _, .bl _, .lst _ _, h, q => by simp [pd, PyData.eqv, eqb]
  | _, _, .int _, .non, h, q | _, _, .int _, .bl _, h, q | _, _, .int _, .int _, h, q | _, _, .int _, .str _, h, q | _, _, .int _, .tup _, h, q | _, _, .int _, .lst _ _, h, q => by simp [pd, PyData.eqv, eqb]
  | _, _, .str _, .non, h, q | _, _, .str _, .bl _, h, q | _, _, .str _, .int _, h, q | _, _, .str _, .tup _, h, q | _, _, .str _, .lst _ _, h, q => by simp [pd, PyData.eqv, eqb]
  | _, _, .str a, .str b, h, q => by simp only [pd, PyData.eqv, eqb]; exact sOf_beq a b
  | _, _, .tup _, .non, h, q | _, _, .tup _, .bl _, h, q | _, _, .tup _, .int _, h, q | _, _, .tup _, .str _, h, q | _, _, .tup _, .lst _ _, h, q => by simp [pd, PyData.eqv, eqb]
  | _, _, .lst _ _, .non, h, q | _, _, .lst _ _, .bl _, h, q | _, _, .lst _ _, .int _, h, q | _, _, .lst _ _, .str _, h, q | _, _, .lst _ _, .tup _, h, q => by simp [pd, PyData.eqv, eqb]
theorem eqvs_pd : ∀ (n m : Nat) (l k : List T), dats n l = true → dats m k = true → PyData.eqvAll (pds l) (pds k) = eqbs l k
  | _, _, [], [], _, _ => by simp [pds, PyData.eqvAll, eqbs]
  | _, _, [], _ :: _, _, _ => by simp [pds, PyData.eqvAll, eqbs]
  | _, _, _ :: _, [], _, _ => by simp [pds, PyData.eqvAll, eqbs]
  | n, m, a :: l, b :: k, h, q => by
    have h' : dat n a = true ∧ dats n l = true := by simpa [dats] using h
    have q' : dat m b = true ∧ dats m k = true := by simpa [dats] using q
    simp only [pds, PyData.eqvAll, eqbs]
    rw [eqv_pd n m a b h'.1 q'.1, eqvs_pd n m l k h'.2 q'.2]
end
theorem cmpT_eq (a b : T) : cmpT .eq a b = if (dat 64 a && dat 64 b) = true then some (eqb a b) else none := by cases a <;> cases b <;> rfl
theorem cmpT_ne (a b : T) : cmpT .ne a b = if (dat 64 a && dat 64 b) = true then some (!eqb a b) else none := by cases a <;> cases b <;> rfl
theorem ok_eq {Z : Rw} : Ok2 Z (rEqD Z.K) (fun x y => (cmpT .eq x y).map .bl) := by
  intro Sh F ms σ H env x y ta tb A B t Q s ra rb hf fin
  dsimp only at hf
  rw [cmpT_eq] at hf
  split at hf
  · rename_i c
    cases hf
    obtain ⟨c1, c2⟩ := Bool.and_eq_true_iff.mp c
    refine ⟨_, _, dpO_of s c1 ra, dpO_of s c2 rb, shaped_of c1 ra (by omega), shaped_of c2 rb (by omega), ?_⟩
    rw [eqv_pd 64 64 ta tb c1 c2]
    exact fin.sh s (.bl _)
  · cases hf
theorem ok_ne {Z : Rw} : Ok2 Z (rNeD Z.K) (fun x y => (cmpT .ne x y).map .bl) := by
  intro Sh F ms σ H env x y ta tb A B t Q s ra rb hf fin
  dsimp only at hf
  rw [cmpT_ne] at hf
  split at hf
  · rename_i c
    cases hf
    obtain ⟨c1, c2⟩ := Bool.and_eq_true_iff.mp c
    refine ⟨_, _, dpO_of s c1 ra, dpO_of s c2 rb, shaped_of c1 ra (by omega), shaped_of c2 rb (by omega), ?_⟩
    rw [eqv_pd 64 64 ta tb c1 c2]
    exact fin.sh s (.bl _)
  · cases hf
/-- < and its like: ints, texts -/
def rCmpS (g : List Nat → List Nat → Bool) : R2 := fun x y H Q => ∃ i j : Str, x = .str i ∧ y = .str j ∧ Q (.bl (g i.cps.toList j.cps.toList)) H
def rOrd (f : Int → Int → Bool) (g : List Nat → List Nat → Bool) : R2 := fun x y H Q => rI0 (fun i j => .bl (f i j)) x y H Q ∨ rCmpS g x y H Q
theorem op_ltA {X : Cx} : OpR X (compareOp .Lt) (rOrd (fun i j => decide (i < j)) fun a b => decide (a < b)) := OpR.or op_lt op_lt_str
theorem op_gtA {X : Cx} : OpR X (compareOp .Gt) (rOrd (fun i j => decide (j < i)) fun a b => decide (b < a)) := OpR.or op_gt op_gt_str
theorem op_leA {X : Cx} : OpR X (compareOp .LtE) (rOrd (fun i j => decide (i ≤ j)) fun a b => !decide (b < a)) := OpR.or op_le op_le_str
theorem op_geA {X : Cx} : OpR X (compareOp .GtE) (rOrd (fun i j => decide (j ≤ i)) fun a b => !decide (a < b)) := OpR.or op_ge op_ge_str
theorem ok_ord {Z : Rw} {op : Cop} {f : Int → Int → Bool} {g : List Nat → List Nat → Bool} (h : ∀ a b t, (cmpT op a b).map T.bl = some t → (∃ i j, a = .int i ∧ b = .int j ∧ t = .bl (f i j)) ∨ ∃ i j, a = .str i ∧ b = .str j ∧ t = .bl (g i j)) :
    Ok2 Z (rOrd f g) (fun x y => (cmpT op x y).map .bl) := by
  intro Sh F ms σ H env x y ta tb A B t Q s ra rb hf fin
  rcases h ta tb t hf with ⟨i, j, rfl, rfl, rfl⟩ | ⟨i, j, rfl, rfl, rfl⟩
  · cases ra.intI; cases rb.intI
    exact .inl ⟨_, _, rfl, rfl, fin.sh s (.bl _)⟩
  · obtain ⟨rfl, _⟩ := ra.strI
    obtain ⟨rfl, _⟩ := rb.strI
    refine .inr ⟨_, _, rfl, rfl, ?_⟩
    rw [sOf_cps, sOf_cps]
    exact fin.sh s (.bl _)
theorem ok_lt {Z : Rw} : Ok2 Z (rOrd (fun i j => decide (i < j)) fun a b => decide (a < b)) (fun x y => (cmpT .lt x y).map .bl) := ok_ord fun a b t h => by cases a <;> cases b <;> simp_all [cmpT]
theorem ok_gt {Z : Rw} : Ok2 Z (rOrd (fun i j => decide (j < i)) fun a b => decide (b < a)) (fun x y => (cmpT .gt x y).map .bl) := ok_ord fun a b t h => by cases a <;> cases b <;> simp_all [cmpT]
theorem ok_le {Z : Rw} : Ok2 Z (rOrd (fun i j => decide (i ≤ j)) fun a b => !decide (b < a)) (fun x y => (cmpT .le x y).map .bl) := ok_ord fun a b t h => by cases a <;> cases b <;> simp_all [cmpT]
theorem ok_ge {Z : Rw} : Ok2 Z (rOrd (fun i j => decide (j ≤ i)) fun a b => !decide (a < b)) (fun x y => (cmpT .ge x y).map .bl) := ok_ord fun a b t h => by cases a <;> cases b <;> simp_all [cmpT]
/-- is None, and not -/
theorem isN_of {Z : Rw} {Sh H : Hp} {v : V} {t : T} {A : List Addr} (r : Rep Z Sh H v t A) (h : t ≠ .und) : decide (v = .non) = isNonT t := by
  cases r with
  | sh h' => cases h' <;> first | exact absurd rfl h | (simp [isNonT]; done) | rfl
  | _ => simp [isNonT]
end Vi

set_option autoImplicit false
set_option Elab.async false
set_option linter.all false
set_option maxRecDepth 100000
/-! VI: expressions, the plain nodes. -/
namespace Vi
open PySem PySem.Spec PyProof.Rows L2

abbrev zx (X : Cx) : Rw := ⟨X.prog, X.w, X.K⟩
section
variable {X : Cx} {c : Cfg} {xp : Xp (zx X)} {e : E} {a b d : Expr} {pos : Pos} {m ma mb : M T}
/-- an expression is as its meaning -/
structure SE (X : Cx) (c : Cfg) (xp : Xp (zx X)) (e : E) (a : Expr) : Prop where
  s : isRd e = none → PE X a (rS (zx X) xp (ev c e))
  o : PE X a (rO (zx X) xp (opd (isRd e) (ev c e)))
  t : PT X a (rT (zx X) xp (testM (isRd e) (ev c e)))
theorem truV_of {Z : Rw} {Sh H : Hp} {F : List Addr} {ms : List (Nat × V)} {σ : L2.St} {env : Env} {v : V} {t : T} {A : List Addr} {k : Bool} (s : SR Z Sh F ms σ H env) (r : Rep Z Sh H v t A) (h : tru t = some k) : TruV Z.K v H k := by
  cases t with
  | non => cases r.nonI; cases h; rfl
  | und => cases h
  | bl b => cases r.blI; cases h; rfl
  | int i => cases r.intI; cases h; rfl
  | str x =>
    obtain ⟨rfl, o⟩ := r.strI
    cases h
    have hl := line_eq
    refine ⟨by rw [sOf_length]; have := o.1; omega, ?_⟩
    rw [sOf_length]
    cases x <;> simp <;> omega
  | tup l =>
    obtain ⟨a, vs, rfl, q, r2, _⟩ := r.tupI s
    cases h
    refine .inr (.inl ⟨vs, q, ?_⟩)
    have := r2.1
    cases vs <;> cases l <;> simp_all
  | lst o l =>
    obtain ⟨a, vs, rfl, q, r2⟩ := r.lstI s
    cases h
    refine .inl ⟨vs, q, ?_⟩
    have := r2.1
    cases vs <;> cases l <;> simp_all
  | dic o l => cases h
/-- the test of an operand -/
theorem test_imp {Z : Rw} {xp : Xp Z} {r : Option Nat} {m : M T} : ∀ σ H Q, rT Z xp (testM r m) σ H Q → rO Z xp (opd r m) σ H (fun x H' => ∃ k, TruV Z.K x H' k ∧ Q k H') := fun σ H Q ⟨Sh, F, ms, env, sr, out⟩ => by
  refine ⟨Sh, F, ms, env, sr, ?_⟩
  have out : Out ((opd r m env).bind fun o e => match o.get e with | some t => need (tru t) e | none => .no) _ _ := out
  refine out.bind.imp (fun o e1 h v H' Sh' A s1 r1 a1 => ?_) fun _ _ _ x => x
  cases g : o.get e1 with
  | none => rw [g] at h; exact h.elim
  | some t =>
    rw [g] at h
    obtain ⟨k, hk, hq⟩ := out_need h
    obtain ⟨A', w⟩ := r1.fin s1.less g
    exact ⟨k, truV_of s1.less w hk, hq H' Sh' s1.less a1⟩
theorem SE.plain (hr : isRd e = none) (h : PE X a (rS (zx X) xp (ev c e))) (he : ∀ whole, isTrue a X.env whole = (do let v ← whole; standAt a.pos; holding [v] (truthy v))) : SE X c xp e a :=
  ⟨fun _ => h, by rw [hr]; exact rO_strong h, by rw [hr]; exact ptI (pt_truth (rO_strong h) he) test_imp⟩
theorem SE.test (hr : isRd e = none) (h : PE X a (rS (zx X) xp (ev c e))) (t : PT X a (rT (zx X) xp (testM none (ev c e)))) : SE X c xp e a :=
  ⟨fun _ => h, by rw [hr]; exact rO_strong h, by rw [hr]; exact t⟩

/-! ### constants -/
theorem se_cst {t : T} {v : V} (h : PE X a (tC v)) (r : ∀ Sh, Rp (zx X) Sh v t) (he : ∀ whole, isTrue a X.env whole = (do let v ← whole; standAt a.pos; holding [v] (truthy v))) : SE X c xp (.cst t) a :=
  .plain rfl (peI h fun σ H Q ⟨Sh, F, ms, env, sr, out⟩ => (show Q v H from (show Out (R.ok t env) _ _ from out) v H Sh [] sr (.sh (r Sh)) Aft.refl)) he
theorem se_glo {g : Nat} {t : T} {v : V} (hg : c.glos[g]? = some t) (h : PE X a (tC v)) (r : ∀ Sh, Rp (zx X) Sh v t) (he : ∀ whole, isTrue a X.env whole = (do let v ← whole; standAt a.pos; holding [v] (truthy v))) : SE X c xp (.glo g) a :=
  .plain rfl (peI h fun σ H Q ⟨Sh, F, ms, env, sr, out⟩ => by
    have out : Out (need (c.glos[g]?) env) _ _ := out
    rw [hg] at out
    exact (show Out (R.ok t env) _ _ from out) v H Sh [] sr (.sh (r Sh)) Aft.refl) he

/-! ### two operands -/
theorem se_bin {op : Bop} {o : Operator} {ea eb : E} {r : R2} (ho : OpR X (binaryOp o) r) (ok : Ok2 (zx X) r (binT op)) (ha : SE X c xp ea a) (hb : SE X c xp eb b) : SE X c xp (.bin op ea eb) (.BinOp a o b pos) :=
  .plain rfl (peI (pe_op ho ha.o hb.o) (bin_imp ok)) (fun _ => rfl)
theorem nomarks (b : Expr) (op : CmpOp) (h : ∀ es k p, b ≠ .Set es k p) : behindInMarks op b = false := by
  cases b <;> first | rfl | exact absurd rfl (h _ _ _)
theorem out_test {m : M T} {env : Env} {P : Bool → Env → Prop} {Y : Nat → T → Env → Prop} (h : Out (testM none m env) P Y) : Out (m env) (fun t e => ∃ k, tru t = some k ∧ P k e) Y := by
  have h : Out ((opd none m env).bind fun o e => match o.get e with | some t => need (tru t) e | none => .no) P Y := h
  have h2 : Out ((m env).bind fun t e => R.ok (O.v t) e) _ _ := h.bind
  refine h2.bind.imp (fun t e q => ?_) fun _ _ _ x => x
  have q : Out (need (tru t) e) P Y := q
  obtain ⟨k, h1, h2⟩ := out_need q
  exact ⟨k, h1, h2⟩
/-- its values are True and False -/
def BoolM (m : M T) : Prop := ∀ env t e, m env = .ok t e → ∃ b, t = .bl b
theorem rT_bool {Z : Rw} {xp : Xp Z} {m : M T} (hb : BoolM m) : ∀ σ H Q, rT Z xp (testM none m) σ H Q → tTest (rS Z xp m) σ H Q := fun σ H Q ⟨Sh, F, ms, env, sr, out⟩ => by
  refine ⟨Sh, F, ms, env, sr, ?_⟩
  have o2 := out_test out
  cases q : m env with
  | no => rw [q] at o2; exact o2
  | ex k d e => rw [q] at o2; exact o2
  | ok t e =>
    rw [q] at o2
    obtain ⟨b, rfl⟩ := hb env t e q
    obtain ⟨k, hk, hq⟩ := (show ∃ k, tru (.bl b) = some k ∧ _ from o2)
    cases hk
    intro v H' Sh' A s1 r1 a1
    exact ⟨b, r1.blI, hq H' Sh' s1.less a1⟩
theorem bind_ok {α β : Type} {r : R α} {f : α → Env → R β} {b : β} {e : Env} (h : r.bind f = .ok b e) : ∃ a e1, r = .ok a e1 ∧ f a e1 = .ok b e := by
  cases r with
  | no => cases h
  | ex k d e => cases h
  | ok a e1 => exact ⟨a, e1, rfl, h⟩
theorem fin2_ok {o p : O} {f : T → T → Option T} {env e : Env} {t : T} (h : fin2 o p f env = .ok t e) : ∃ a b, f a b = some t := by
  unfold fin2 at h
  split at h
  · rename_i a b _ _
    unfold need at h
    split at h
    · rename_i x hx
      cases h
      exact ⟨a, b, hx⟩
    · cases h
  · cases h
theorem fin1_ok {o : O} {f : T → Option T} {env e : Env} {t : T} (h : fin1 o f env = .ok t e) : ∃ a, f a = some t := by
  unfold fin1 at h
  split at h
  · rename_i a _
    unfold need at h
    split at h
    · rename_i x hx
      cases h
      exact ⟨a, hx⟩
    · cases h
  · cases h
theorem boolM_bin {na nb : M O} {f : T → T → Option Bool} : BoolM (mBin na nb fun x y => (f x y).map .bl) := fun env t e h => by
  unfold mBin at h
  obtain ⟨o, e1, _, h⟩ := bind_ok h
  obtain ⟨p, e2, _, h⟩ := bind_ok h
  obtain ⟨x, y, h⟩ := fin2_ok h
  obtain ⟨k, _, rfl⟩ := Option.map_eq_some_iff.mp h
  exact ⟨k, rfl⟩
theorem boolM_un {na : M O} {f : T → Option T} (hf : ∀ x t, f x = some t → ∃ b, t = .bl b) : BoolM (mUn na f) := fun env t e h => by
  unfold mUn at h
  obtain ⟨o, e1, _, h⟩ := bind_ok h
  obtain ⟨x, h⟩ := fin1_ok h
  exact hf x t h
/-- a comparison -/
theorem se_cmp {op : Cop} {o : CmpOp} {ea eb : E} {r : R2} (ho : OpR X (compareOp o) r) (ok : Ok2 (zx X) r (fun x y => (cmpT op x y).map .bl)) (ha : SE X c xp ea a) (hb : SE X c xp eb b) (hm : behindInMarks o b = false) :
    SE X c xp (.cmp op ea eb) (.Compare a [o] [b] pos) :=
  .test rfl (peI (pe_cmpR ho ha.o hb.o hm) (bin_imp ok)) (ptI (pt_cmpR ho ha.o hb.o hm) fun σ H Q h => bin_imp ok σ H _ (rT_bool (m := mBin (opd (isRd ea) (ev c ea)) (opd (isRd eb) (ev c eb)) fun x y => (cmpT op x y).map .bl) boolM_bin σ H Q h))
/-- one operand -/
theorem se_neg {ea : E} (ha : SE X c xp ea a) : SE X c xp (.neg ea) (.UnaryOp .USub a pos) := .plain rfl (peI (pe_un un_neg ha.o) (un_imp ok_neg)) (fun _ => rfl)
/-! ### is None -/
theorem isNf_some {k : Bool} {t u : T} (h : isNf k t = some u) : t ≠ .und ∧ u = .bl (isNonT t == k) := by
  unfold isNf at h
  split at h
  · cases h
  · rename_i h1
    cases h
    exact ⟨h1, rfl⟩
theorem isN_imp {Z : Rw} {xp : Xp Z} {na : M O} (k : Bool) : ∀ σ H Q, rS Z xp (mUn na (isNf k)) σ H Q → (fun σ H Q => rO Z xp na σ H fun x H1 => Q (.bl (if k then decide (x = .non) else !decide (x = .non))) H1) σ H Q := fun σ H Q ⟨Sh, F, ms, env, sr, out⟩ => by
  refine ⟨Sh, F, ms, env, sr, out.bind.imp (fun o e1 h1 v1 H1 Sh1 A s1 r1 a1 => ?_) fun _ _ _ x => x⟩
  obtain ⟨ta, t, g1, hf, fin⟩ := out_fin1 h1
  obtain ⟨A', w⟩ := r1.fin s1.less g1
  obtain ⟨n, rfl⟩ := isNf_some hf
  have e := isN_of w n
  rw [e]
  refine fin _ H1 Sh1 [] s1.less (.sh ?_) a1
  have e2 : (if k = true then isNonT ta else !isNonT ta) = (isNonT ta == k) := by cases k <;> cases isNonT ta <;> rfl
  rw [e2]
  exact .bl _
theorem boolM_isN {na : M O} {k : Bool} : BoolM (mUn na (isNf k)) := boolM_un fun x t h => ⟨_, (isNf_some h).2⟩
theorem se_isN {ea : E} {j : Nat} {pos' : Pos} (ha : SE X c xp ea a) : SE X c xp (.isN ea) (.Compare a [.Is] [.Constant .none j pos'] pos) := by
  have h := peI (pe_cmp (pos := pos) (pc_isN (j := j) (pos' := pos') ha.o)) (fun σ H Q q => isN_imp true σ H Q q)
  have t := ptI (pt_cmp (pos := pos) (pc_isN (j := j) (pos' := pos') ha.o)) (fun σ H Q q => isN_imp true σ H _ (rT_bool (m := mUn (opd (isRd ea) (ev c ea)) (isNf true)) boolM_isN σ H Q q))
  exact .test rfl h t
theorem se_notN {ea : E} {j : Nat} {pos' : Pos} (ha : SE X c xp ea a) : SE X c xp (.notN ea) (.Compare a [.IsNot] [.Constant .none j pos'] pos) := by
  have h := peI (pe_cmp (pos := pos) (pc_notN (j := j) (pos' := pos') ha.o)) (fun σ H Q q => isN_imp false σ H Q q)
  have t := ptI (pt_cmp (pos := pos) (pc_notN (j := j) (pos' := pos') ha.o)) (fun σ H Q q => isN_imp false σ H _ (rT_bool (m := mUn (opd (isRd ea) (ev c ea)) (isNf false)) boolM_isN σ H Q q))
  exact .test rfl h t
end
end Vi

set_option autoImplicit false
set_option Elab.async false
set_option linter.all false
set_option maxRecDepth 100000
/-! VI: chains, and, or, not, if-else. -/
namespace Vi
open PySem PySem.Spec PyProof.Rows L2
section
variable {X : Cx} {c : Cfg} {xp : Xp (zx X)} {e : E} {a b d : Expr} {pos : Pos} {m ma mb : M T}
def mChn (na nb nd : M O) (f g : T → T → Option Bool) : M T := fun e => (na e).bind fun o e => (nb e).bind fun p e => (fin2 o p (fun x y => (f x y).map .bl) e).bind fun t e => match t with
    | .bl true => (nd e).bind fun q e => fin2 p q (fun x y => (g x y).map .bl) e
    | .bl false => .ok (.bl false) e
    | _ => .no
theorem out_fin2b {o p : O} {f : T → T → Option T} {env : Env} {α : Type} {P : α → Env → Prop} {Y : Nat → T → Env → Prop} {k : T → Env → R α} (h : Out ((fin2 o p f env).bind k) P Y) : ∃ a b t, o.get env = some a ∧ p.get env = some b ∧ f a b = some t ∧ Out (k t env) P Y := by
  obtain ⟨x, y, t, h1, h2, h3, h4⟩ := out_fin2 h.bind
  exact ⟨x, y, t, h1, h2, h3, h4⟩
theorem chn_imp {Z : Rw} {xp : Xp Z} {na nb nd : M O} {r r' : R2} {f g : T → T → Option Bool} (ok1 : Ok2 Z r (fun x y => (f x y).map .bl)) (ok2 : Ok2 Z r' (fun x y => (g x y).map .bl)) :
    ∀ σ H Q, rS Z xp (mChn na nb nd f g) σ H Q → tChain r r' (rO Z xp na) (rO Z xp nb) (rO Z xp nd) σ H Q := fun σ H Q ⟨Sh, F, ms, env, sr, out⟩ => by
  refine ⟨Sh, F, ms, env, sr, out.bind.imp (fun o e1 h1 v1 H1 Sh1 A s1 r1 a1 => ?_) fun _ _ _ x => x⟩
  refine ⟨Sh1, A ++ F, ms, e1, s1, h1.bind.imp (fun p e2 h2 v2 H2 Sh2 B s2 r2 a2 => ?_) fun _ _ _ x => xp.mono A a1 x⟩
  obtain ⟨ta, tb, t, g1, g2, hf, h3⟩ := out_fin2b h2
  have q1 := r1.stay a2 (fun x hx => List.mem_append_left _ hx) (fun x hx => (s2.less.fr.2 x hx).1)
  obtain ⟨A', w1⟩ := q1.fin s2 g1
  obtain ⟨B', w2⟩ := r2.fin s2 g2
  refine ok1 Sh2 (B ++ (A ++ F)) ms σ H2 e2 v1 v2 ta tb A' B' t _ s2 w1 w2 hf fun v H3 Sh3 C s3 r3 a3 => ?_
  obtain ⟨k, _, rfl⟩ := Option.map_eq_some_iff.mp hf
  obtain ⟨r3', rfl⟩ := r3.shared rfl
  cases r3'
  refine ⟨k, rfl, ?_⟩
  have s3' : SR Z Sh3 (B ++ (A ++ F)) ms σ H3 e2 := s3
  have a13 : Aft Sh F H Sh3 H3 := (a1.trans (a2.less fun x hx => List.mem_append_right _ hx)).trans (a3.less fun x hx => List.mem_append_right _ (List.mem_append_right _ hx))
  have q2 := r2.stay a3 (fun x hx => List.mem_append_left _ hx) (fun x hx => (s3'.fr.2 x hx).1)
  cases k with
  | false =>
    rw [if_neg Bool.false_ne_true]
    exact (show ∀ v H' Sh' A, _ from h3) _ H3 Sh3 [] s3'.less.less (.sh (.bl _)) a13
  | true =>
    rw [if_pos rfl]
    have h3 := (show Out ((nd e2).bind _) _ _ from h3).bind
    refine ⟨Sh3, B ++ (A ++ F), ms, e2, s3', h3.imp (fun q e4 h4 v4 H4 Sh4 D s4 r4 a4 => ?_) fun _ _ _ x => by
      have := xp.mono (B ++ A) a13 x
      rwa [List.append_assoc] at this⟩
    obtain ⟨tb', td, t', g3, g4, hg, fin⟩ := out_fin2 h4
    have q3 := q2.stay a4 (fun x hx => List.mem_append_left _ hx) (fun x hx => (s4.less.fr.2 x hx).1)
    have s4' : SR Z Sh4 F ms σ H4 e4 := s4.less.less.less
    obtain ⟨B2, w3⟩ := q3.fin s4' g3
    obtain ⟨D2, w4⟩ := r4.fin s4' g4
    exact ok2 Sh4 F ms σ H4 e4 v2 v4 tb' td B2 D2 t' Q s4' w3 w4 hg fun v H' Sh' E s5 r5 a5 => fin v H' Sh' E s5 r5 ((a13.trans (a4.less fun x hx => List.mem_append_right _ (List.mem_append_right _ hx))).trans a5)
theorem boolM_chn {na nb nd : M O} {f g : T → T → Option Bool} : BoolM (mChn na nb nd f g) := fun env t e h => by
  unfold mChn at h
  obtain ⟨o, e1, _, h⟩ := bind_ok h
  obtain ⟨p, e2, _, h⟩ := bind_ok h
  obtain ⟨u, e3, _, h⟩ := bind_ok h
  split at h
  · obtain ⟨q, e4, _, h⟩ := bind_ok h
    obtain ⟨x, y, h⟩ := fin2_ok h
    obtain ⟨k, _, rfl⟩ := Option.map_eq_some_iff.mp h
    exact ⟨k, rfl⟩
  · cases h; exact ⟨_, rfl⟩
  · cases h
theorem se_chn {o1 o2 : Cop} {p1 p2 : CmpOp} {ea eb ed : E} {r r' : R2} (h1 : OpR X (compareOp p1) r) (h2 : OpR X (compareOp p2) r') (ok1 : Ok2 (zx X) r (fun x y => (cmpT o1 x y).map .bl)) (ok2 : Ok2 (zx X) r' (fun x y => (cmpT o2 x y).map .bl))
    (ha : SE X c xp ea a) (hb : SE X c xp eb b) (hd : SE X c xp ed d) (hm : behindInMarks p2 d = false) : SE X c xp (.chn o1 o2 ea eb ed) (.Compare a [p1, p2] [b, d] pos) := by
  have hm' : lastMarks [p1, p2] [b, d] = false := hm
  exact .test rfl (peI (pe_chain h1 h2 ha.o hb.o hd.o hm') (chn_imp ok1 ok2)) (ptI (pt_chain h1 h2 ha.o hb.o hd.o hm') fun σ H Q h => chn_imp ok1 ok2 σ H _ (rT_bool (m := mChn (opd (isRd ea) (ev c ea)) (opd (isRd eb) (ev c eb)) (opd (isRd ed) (ev c ed)) (cmpT o1) (cmpT o2)) boolM_chn σ H Q h))

/-! ### not -/
def notF (t : T) : Option T := (tru t).map fun b => .bl (!b)
theorem not_imp {Z : Rw} {xp : Xp Z} {na : M O} : ∀ σ H Q, rS Z xp (mUn na notF) σ H Q → tNotT Z.K (rO Z xp na) σ H Q := fun σ H Q ⟨Sh, F, ms, env, sr, out⟩ => by
  refine ⟨Sh, F, ms, env, sr, out.bind.imp (fun o e1 h1 v1 H1 Sh1 A s1 r1 a1 => ?_) fun _ _ _ x => x⟩
  obtain ⟨ta, t, g1, hf, fin⟩ := out_fin1 h1
  obtain ⟨A', w⟩ := r1.fin s1.less g1
  obtain ⟨k, hk, rfl⟩ := Option.map_eq_some_iff.mp hf
  exact ⟨k, truV_of s1.less w hk, fin _ H1 Sh1 [] s1.less (.sh (.bl _)) a1⟩
theorem not_testimp {Z : Rw} {xp : Xp Z} {r : Option Nat} {m : M T} : ∀ σ H Q, rT Z xp (testM none (mUn (opd r m) notF)) σ H Q → tNot (rT Z xp (testM r m)) σ H Q := fun σ H Q ⟨Sh, F, ms, env, sr, out⟩ => by
  refine ⟨Sh, F, ms, env, sr, ?_⟩
  have o2 := (show Out ((opd r m env).bind fun o e => fin1 o notF e) _ _ from out_test out).bind
  show Out ((opd r m env).bind fun o e => match o.get e with | some t => need (tru t) e | none => .no) _ _
  cases q : opd r m env with
  | no => rw [q] at o2; exact o2
  | ex k d e => rw [q] at o2; exact o2
  | ok o e1 =>
    rw [q] at o2
    obtain ⟨ta, t, g1, hf, k, hk, hq⟩ := out_fin1 (show Out (fin1 o notF e1) _ _ from o2)
    obtain ⟨b, hb, rfl⟩ := Option.map_eq_some_iff.mp hf
    show Out (match o.get e1 with | some t => need (tru t) e1 | none => .no) _ _
    rw [g1]
    show Out (need (tru ta) e1) _ _
    rw [hb]
    have hk' : k = !b := by have : some (!b) = some k := hk; cases this; rfl
    subst hk'
    exact hq
theorem se_not {ea : E} (ha : SE X c xp ea a) : SE X c xp (.not ea) (.UnaryOp .Not a pos) :=
  .test rfl (peI (pe_notT ha.o) not_imp) (ptI (pt_not ha.t) not_testimp)

/-! ### if-else -/
def mIte (nq : M O) (rb rc : Option Nat) (mb mc : M T) : M T := fun e => (nq e).bind fun o e => (fin1 o (fun t => (tru t).map .bl) e).bind fun t e => match t with
    | .bl true => strong rb mb e
    | .bl false => strong rc mc e
    | _ => .no
theorem out_fin1b {o : O} {f : T → Option T} {env : Env} {α : Type} {P : α → Env → Prop} {Y : Nat → T → Env → Prop} {k : T → Env → R α} (h : Out ((fin1 o f env).bind k) P Y) : ∃ a t, o.get env = some a ∧ f a = some t ∧ Out (k t env) P Y := by
  obtain ⟨x, t, h1, h2, h3⟩ := out_fin1 h.bind
  exact ⟨x, t, h1, h2, h3⟩
theorem strong_out {α : Type} {r : Option Nat} {m : M T} {env : Env} {P : T → Env → Prop} {Y : Nat → T → Env → Prop} (h : Out (strong r m env) P Y) : r = none ∧ Out (m env) P Y := by
  cases r with
  | none => exact ⟨rfl, h⟩
  | some i => exact h.elim
/-- a value that must be one's own: if it is none, nothing is asked -/
theorem pe_strong {e : E} {a : Expr} (h : SE X c xp e a) : PE X a (rS (zx X) xp (strong (isRd e) (ev c e))) := by
  cases q : isRd e with
  | none => exact h.s q
  | some i => exact ⟨fun pins s σ H Q I ⟨_, _, _, _, _, out⟩ => out.elim⟩
theorem testM_of {nq : M O} {r : Option Nat} {m : M T} {env : Env} {α : Type} {P : α → Env → Prop} {Y : Nat → T → Env → Prop} {k : T → Env → R α}
    (h : Out ((opd r m env).bind fun o e => (fin1 o (fun t => (tru t).map .bl) e).bind k) P Y) : Out (testM r m env) (fun b e => Out (k (.bl b) e) P Y) Y := by
  have h := h.bind
  show Out ((opd r m env).bind fun o e => match o.get e with | some t => need (tru t) e | none => .no) _ _
  cases q : opd r m env with
  | no => rw [q] at h; exact h
  | ex k d e => rw [q] at h; exact h
  | ok o e1 =>
    rw [q] at h
    obtain ⟨ta, t, g1, hf, h2⟩ := out_fin1b (show Out ((fin1 o (fun t => (tru t).map T.bl) e1).bind k) P Y from h)
    obtain ⟨b, hb, rfl⟩ := Option.map_eq_some_iff.mp hf
    show Out (match o.get e1 with | some t => need (tru t) e1 | none => .no) _ _
    rw [g1]
    show Out (need (tru ta) e1) _ _
    rw [hb]
    exact h2
theorem ite_imp {Z : Rw} {xp : Xp Z} {r rb rc : Option Nat} {m mb mc : M T} : ∀ σ H Q, rS Z xp (mIte (opd r m) rb rc mb mc) σ H Q → tIf (rT Z xp (testM r m)) (rS Z xp (strong rb mb)) (rS Z xp (strong rc mc)) σ H Q := fun σ H Q ⟨Sh, F, ms, env, sr, out⟩ => by
  refine ⟨Sh, F, ms, env, sr, (testM_of (nq := opd r m) out).imp (fun k e1 h1 H1 Sh1 s1 a1 => ?_) fun _ _ _ x => x⟩
  cases k with
  | true =>
    rw [if_pos rfl]
    exact ⟨Sh1, F, ms, e1, s1, h1.imp (fun t e2 h2 v H' Sh' A s2 r2 a2 => h2 v H' Sh' A s2 r2 (a1.trans a2)) fun _ _ _ x => xp.mono [] a1 x⟩
  | false =>
    rw [if_neg Bool.false_ne_true]
    exact ⟨Sh1, F, ms, e1, s1, h1.imp (fun t e2 h2 v H' Sh' A s2 r2 a2 => h2 v H' Sh' A s2 r2 (a1.trans a2)) fun _ _ _ x => xp.mono [] a1 x⟩
theorem pt_ite {q a b : Expr} {tq ta tb : TT} (hq : PT X q tq) (ha : PT X a ta) (hb : PT X b tb) : PT X (.IfExp q a b pos) (fun σ H Q => tq σ H fun k H1 => if k = true then ta σ H1 Q else tb σ H1 Q) := by
  refine ⟨fun pins s σ H Q I h => ?_⟩
  refine isTrue_IfExp (thn (hq.run pins s σ H _ I h) fun d s1 ⟨H1, I1, q1⟩ => ?_)
  cases d with
  | true => exact ha.run pins s1 σ H1 Q I1 q1
  | false => exact hb.run pins s1 σ H1 Q I1 q1
theorem out_test' {r : Option Nat} {m : M T} {env : Env} {P : Bool → Env → Prop} {Y : Nat → T → Env → Prop} (hr : r = none) (h : Out (m env) (fun t e => ∃ k, tru t = some k ∧ P k e) Y) : Out (testM r m env) P Y := by
  subst hr
  show Out (((m env).bind fun t e => R.ok (O.v t) e).bind fun o e => match o.get e with | some t => need (tru t) e | none => .no) _ _
  cases q : m env with
  | no => rw [q] at h; exact h
  | ex k d e => rw [q] at h; exact h
  | ok t e1 =>
    rw [q] at h
    obtain ⟨k, hk, hp⟩ := h
    show Out (need (tru t) e1) P Y
    rw [hk]
    exact hp
theorem se_ite {eq ea eb : E} {q : Expr} (hq : SE X c xp eq q) (ha : SE X c xp ea a) (hb : SE X c xp eb b) : SE X c xp (.ite eq ea eb) (.IfExp q a b pos) := by
  refine .test rfl (peI (pe_ifExp hq.t (pe_strong ha) (pe_strong hb)) ite_imp) (ptI (pt_ite hq.t ha.t hb.t) fun σ H Q ⟨Sh, F, ms, env, sr, out⟩ => ?_)
  have o2 := testM_of (nq := opd (isRd eq) (ev c eq)) (k := fun t e => match t with
    | .bl true => strong (isRd ea) (ev c ea) e
    | .bl false => strong (isRd eb) (ev c eb) e
    | _ => .no) (out_test out)
  refine ⟨Sh, F, ms, env, sr, o2.imp (fun k e1 h1 H1 Sh1 s1 a1 => ?_) fun _ _ _ x => x⟩
  cases k with
  | true =>
    rw [if_pos rfl]
    obtain ⟨hr, h2⟩ := strong_out (α := T) h1
    exact ⟨Sh1, F, ms, e1, s1, out_test' hr (h2.imp (fun t e2 ⟨k, hk, h3⟩ => ⟨k, hk, fun H' Sh' s2 a2 => h3 H' Sh' s2 (a1.trans a2)⟩) fun _ _ _ x => xp.mono [] a1 x)⟩
  | false =>
    rw [if_neg Bool.false_ne_true]
    obtain ⟨hr, h2⟩ := strong_out (α := T) h1
    exact ⟨Sh1, F, ms, e1, s1, out_test' hr (h2.imp (fun t e2 ⟨k, hk, h3⟩ => ⟨k, hk, fun H' Sh' s2 a2 => h3 H' Sh' s2 (a1.trans a2)⟩) fun _ _ _ x => xp.mono [] a1 x)⟩
end
end Vi

set_option autoImplicit false
set_option Elab.async false
set_option linter.all false
set_option maxRecDepth 100000
/-! VI: a value is shared from now on. -/
namespace Vi
open PySem PySem.Spec PyProof.Rows L2
section
variable {Z : Rw} {Sh Sh' H H' : Hp} {v : V} {t : T} {A F : List Addr} {ms : List (Nat × V)} {σ : L2.St} {env : Env}
theorem Rp.fz1 (r : Rp Z Sh v t) : fz1 t = t := by cases r <;> rfl
theorem map_self {l : List (T × T)} (h : ∀ (i : Nat) (q : T × T), l[i]? = some q → fz1 q.2 = q.2) : l.map (fun p => (p.1, fz1 p.2)) = l := by
  apply List.ext_getElem?
  intro i
  rw [List.getElem?_map]
  cases e : l[i]? with
  | none => rfl
  | some q => show some (q.1, Vi.fz1 q.2) = some q; rw [h i q e]
theorem Rp.fz (r : Rp Z Sh v t) : fz t = t := by
  cases r with
  | dic0 h hl hk hs =>
    show T.dic false _ = _
    rw [map_self fun i q e => ?_]
    obtain ⟨hi, _⟩ := List.getElem?_eq_some_iff.mp e
    exact (hs i _ q (List.getElem?_eq_getElem (by omega)) e).fz1
  | dic1 h hl hk hp hr hs =>
    show T.dic false _ = _
    rw [map_self fun i q e => ?_]
    obtain ⟨hi, _⟩ := List.getElem?_eq_some_iff.mp e
    exact (hs i _ q (List.getElem?_eq_getElem (by omega)) e).fz1
  | _ => rfl
def shF (Sh H : Hp) (A : List Addr) : Hp := fun b => if b ∈ A then H b else Sh b
theorem shF_in {b : Addr} (h : b ∈ A) : shF Sh H A b = H b := if_pos h
theorem shF_out {b : Addr} (h : b ∉ A) : shF Sh H A b = Sh b := if_neg h
theorem shF_grow (h : ∀ a ∈ A, Sh a = none) : Grow Sh (shF Sh H A) := fun a o e => by
  rw [shF_out (fun z => by rw [h a z] at e; cases e)]; exact e
/-- a dict is locked when it is shared -/
def Lock (v : V) (t : T) (H H' : Hp) : Prop := match t with
  | .dic true _ => ∃ a u od, v = .ref a ∧ H a = some u ∧ H' = upd H a (.frz od u)
  | _ => H' = H
theorem mut_dK {kvs : List (Key × V)} : Mut (some (HO.dK kvs)) := True.intro
theorem Inv.lockT {X : Cx} {pins : List (Addr × Obj)} {s : Shared} (I : Inv X pins σ H s) (r : Rep (zx X) Sh H v t A) : ∃ H', Lock v t H H' ∧ Inv X pins σ H' s := by
  cases r with
  | sh h => cases h <;> exact ⟨H, rfl, I⟩
  | lst h n hs => exact ⟨H, rfl, I⟩
  | dic0 h n hk hs =>
    obtain ⟨od, I'⟩ := I.lock h True.intro
    exact ⟨_, ⟨_, _, od, rfl, h, rfl⟩, I'⟩
  | dic1 h n hk hp hr hs =>
    obtain ⟨od, I'⟩ := I.lock h True.intro
    exact ⟨_, ⟨_, _, od, rfl, h, rfl⟩, I'⟩
theorem Lock.out (l : Lock v t H H') (r : Rep Z Sh H v t A) : ∀ b, b ∉ A → H' b = H b := fun b hb => by
  cases r with
  | sh h => cases h <;> (cases (show H' = H from l); rfl)
  | lst h n hs => cases (show H' = H from l); rfl
  | dic0 h n hk hs =>
    obtain ⟨a, u, od, e, h', rfl⟩ := l
    cases e
    exact upd_ne fun z => hb (z ▸ List.mem_cons_self)
  | dic1 h n hk hp hr hs =>
    obtain ⟨a, u, od, e, h', rfl⟩ := l
    cases e
    exact upd_ne fun z => hb (z ▸ List.mem_cons_self)
theorem Lock.there (l : Lock v t H H') (r : Rep Z Sh H v t A) : ∀ b ∈ A, ∃ o, H' b = some o := fun b hb => by
  obtain ⟨_, o, e⟩ := r.there b hb
  cases r with
  | sh h => simp at hb
  | lst h n hs => cases (show H' = H from l); exact ⟨o, e⟩
  | dic0 h n hk hs =>
    obtain ⟨a, u, od, e', h', rfl⟩ := l
    by_cases q : b = a
    · subst q; exact ⟨_, upd_same⟩
    · exact ⟨o, by rw [upd_ne q]; exact e⟩
  | dic1 h n hk hp hr hs =>
    obtain ⟨a, u, od, e', h', rfl⟩ := l
    by_cases q : b = a
    · subst q; exact ⟨_, upd_same⟩
    · exact ⟨o, by rw [upd_ne q]; exact e⟩
theorem VRep.frz {B : List Addr} {vs : List V} {ts : List T} (r : VRep Z Sh H vs ts B) (g : Grow Sh Sh') (hB : ∀ b ∈ B, Sh' b = H b) : RpL Z Sh' vs (ts.map fz1) := by
  induction r with
  | nil => exact RpL.nil
  | sh h _ ih =>
    rw [List.map_cons, h.fz1]
    exact (ih hB).cons (h.mono g)
  | @own a us ls vs ts B h n q _ ih =>
    rw [List.map_cons]
    refine RpL.cons ?_ (ih fun b hb => hB b (List.mem_cons_of_mem _ hb))
    have q' := q.mono g
    exact .lst (.inl (.inl ((hB a List.mem_cons_self).trans h))) q'.1 q'.2
theorem Rep.frozen (r : Rep Z Sh H v t A) (nd : A.Nodup) (l : Lock v t H H') : Rp Z (shF Sh H' A) v (fz t) := by
  have g : Grow Sh (shF Sh H' A) := shF_grow fun a ha => (r.there a ha).1
  have out := l.out r
  cases r with
  | sh h => rw [h.fz]; exact h.mono g
  | lst h n hs =>
    cases (show H' = H from l)
    have q := hs.mono g
    exact .lst (.inl (.inl ((shF_in (by simp)).trans h))) q.1 q.2
  | @dic0 a kvs m B h n hk hs =>
    obtain ⟨a', u, od, e, h', rfl⟩ := l
    cases e
    rw [h] at h'; cases h'
    have nb : ∀ b ∈ B, b ≠ a := fun b hb z => (List.nodup_cons.mp nd).1 (z ▸ hb)
    have q := hs.frz g fun b hb => (shF_in (List.mem_cons_of_mem _ hb)).trans (upd_ne (nb b hb))
    have hl : kvs.length = m.length := by have := congrArg List.length hk; simpa using this
    refine .dic0 (od := od) (kvs := kvs) ((shF_in (by simp)).trans upd_same) (by rw [List.length_map]; exact hl) (by rw [hk, List.map_map]; rfl) fun i p y h1 h2 => ?_
    rw [List.getElem?_map] at h2
    cases e : m[i]? with
    | none => rw [e] at h2; cases h2
    | some x =>
      rw [e] at h2
      cases h2
      exact q.2 i p.2 (Vi.fz1 x.2) (by rw [List.getElem?_map, h1]; rfl) (by rw [List.getElem?_map, List.getElem?_map, e]; rfl)
  | @dic1 a xs m B h n hk hp hr hs =>
    obtain ⟨a', u, od, e, h', rfl⟩ := l
    cases e
    rw [h] at h'; cases h'
    have nb : ∀ b ∈ B, b ≠ a := fun b hb z => (List.nodup_cons.mp nd).1 (z ▸ hb)
    have q := hs.frz g fun b hb => (shF_in (List.mem_cons_of_mem _ hb)).trans (upd_ne (nb b hb))
    have hl : xs.length = m.length := by have := congrArg List.length hk; simpa using this
    refine .dic1 (od := od) (xs := xs) ((shF_in (by simp)).trans upd_same) (by rw [List.length_map]; exact hl) (by rw [hk, List.map_map]; rfl) ⟨fun z => hp.1 (List.map_eq_nil_iff.mp z), fun y hy => ?_⟩ (fun i p y h1 h2 => ?_) fun i p y h1 h2 => ?_
    · obtain ⟨x, hx, rfl⟩ := List.mem_map.mp hy
      exact hp.2 x hx
    all_goals
      rw [List.getElem?_map] at h2
      cases e : m[i]? with
      | none => rw [e] at h2; cases h2
      | some x =>
        rw [e] at h2
        cases h2
        first
          | exact (hr i p x h1 e).mono g
          | exact q.2 i p.2.2 (Vi.fz1 x.2) (by rw [List.getElem?_map, h1]; rfl) (by rw [List.getElem?_map, List.getElem?_map, e]; rfl)
/-- a value in flight is shared -/
theorem SR.freeze (s : SR Z Sh (A ++ F) ms σ H env) (r : Rep Z Sh H v t A) (l : Lock v t H H') : SR Z (shF Sh H' A) F ms σ H' env ∧ Rp Z (shF Sh H' A) v (fz t) ∧ Aft Sh F H (shF Sh H' A) H' := by
  have nd := List.nodup_append.mp s.fr.1
  have g : Grow Sh (shF Sh H' A) := shF_grow fun a ha => (r.there a ha).1
  have out := l.out r
  refine ⟨SR.step (A' := []) s g (fun b o e => ?_) (fun b hb _ => ⟨out b hb, fun z => by rw [shF_out hb]; exact z⟩) (fun b hb => by simp at hb) (by simp), r.frozen nd.1 l, g, fun b hb => out b fun z => nd.2.2 b z b hb rfl⟩
  by_cases hb : b ∈ A
  · rw [shF_in hb] at e; exact e
  · rw [shF_out hb] at e
    rw [out b hb]
    exact s.sub b o e
/-- a variable's value is shared -/
theorem SR.freezeVar (s : SR Z Sh F ms σ H env) {i : Nat} (e : (env[i]?).bind id = some t) : ∃ v A, σ[i]? = some (some v) ∧ Rep Z Sh H v t A ∧ ∀ H', Lock v t H H' → ∃ Sh', SR Z Sh' F ms σ H' (env.set i (some (fz t))) ∧ Rp Z Sh' v (fz t) ∧ Aft Sh F H Sh' H' := by
  obtain ⟨v, A, e1, r, hF, nd, ch⟩ := s.change e
  refine ⟨v, A, e1, r, fun H' l => ⟨shF Sh H' A, ?_, r.frozen nd l, shF_grow fun a ha => (r.there a ha).1, fun b hb => l.out r b fun z => hF b z hb⟩⟩
  have g : Grow Sh (shF Sh H' A) := shF_grow fun a ha => (r.there a ha).1
  refine ch (shF Sh H' A) H' (fz t) [] g (fun b o q => ?_) (fun b hb _ => ⟨l.out r b hb, fun z => by rw [shF_out hb]; exact z⟩) (.sh (r.frozen nd l)) (fun b hb => by simp at hb) (by simp)
  by_cases hb : b ∈ A
  · rw [shF_in hb] at q; exact q
  · rw [shF_out hb] at q
    rw [l.out r b hb]
    exact s.sub b o q
end

section
variable {X : Cx} {c : Cfg} {xp : Xp (zx X)} {e : E} {a b : Expr} {m : M T}
/-- an expression whose value is shared -/
def rF (Z : Rw) (xp : Xp Z) (m : M T) : TE := fun σ H Q => ∃ Sh F ms env, SR Z Sh F ms σ H env ∧
  Out (m env) (fun t env' => ∀ v H' Sh', SR Z Sh' F ms σ H' env' → Rp Z Sh' v (fz t) → Aft Sh F H Sh' H' → Q v H') (xp.p Sh F ms H)
theorem pe_frz (h : PE X a (rS (zx X) xp m)) : PE X a (rF (zx X) xp m) := by
  refine ⟨fun pins s σ H Q I ⟨Sh, F, ms, env, sr, out⟩ => ?_⟩
  refine thn (h.run pins s σ H (fun v H1 => ∃ t env' Sh1 A, SR (zx X) Sh1 (A ++ F) ms σ H1 env' ∧ Rep (zx X) Sh1 H1 v t A ∧ Aft Sh F H Sh1 H1 ∧ ∀ v H' Sh', SR (zx X) Sh' F ms σ H' env' → Rp (zx X) Sh' v (fz t) → Aft Sh F H Sh' H' → Q v H') I
    ⟨Sh, F, ms, env, sr, out.imp (fun t env' q v H1 Sh1 A s1 r1 a1 => ⟨t, env', Sh1, A, s1, r1, a1, q⟩) fun _ _ _ x => x⟩) fun u s1 ⟨v, H1, I1, rv, t, env', Sh1, A, s1', r1, a1, q⟩ => ?_
  obtain ⟨H2, l, I2⟩ := Inv.lockT I1 r1
  obtain ⟨s2, r2, a2⟩ := s1'.freeze r1 l
  exact ⟨v, H2, I2, rv, q v H2 _ s2 r2 (a1.trans a2)⟩
/-- a variable's value, from now on shared -/
theorem pe_getVar {i : Nat} (h : PE X a (tVar i)) : PE X a (rS (zx X) xp (getVar i)) := by
  refine ⟨fun pins s σ H Q I ⟨Sh, F, ms, env, sr, out⟩ => ?_⟩
  unfold getVar at out
  cases q : (env[i]?).bind id with
  | none => rw [q] at out; exact out.elim
  | some t =>
    rw [q] at out
    by_cases ho : own t = true
    · have out : Out (if own t = true then R.ok (fz t) (env.set i (some (fz t))) else R.ok t env) _ _ := out
      rw [if_pos ho] at out
      obtain ⟨v, A, e1, r, fr⟩ := sr.freezeVar q
      refine thn (h.run pins s σ H (fun w H1 => w = v ∧ H1 = H) I ⟨v, e1, rfl, rfl⟩) fun u s1 ⟨w, H1, I1, rv, e2, e3⟩ => ?_
      subst e2 e3
      obtain ⟨H2, l, I2⟩ := Inv.lockT I1 r
      obtain ⟨Sh', s2, r2, a2⟩ := fr H2 l
      exact ⟨_, H2, I2, rv, out _ H2 Sh' [] s2 (.sh r2) a2⟩
    · have out : Out (if own t = true then R.ok (fz t) (env.set i (some (fz t))) else R.ok t env) _ _ := out
      rw [if_neg ho] at out
      obtain ⟨v, A, e1, r, _⟩ := sr.get q
      obtain ⟨r', rfl⟩ := r.shared (by simpa using ho)
      exact h.run pins s σ H Q I ⟨v, e1, out v H Sh [] sr (.sh r') Aft.refl⟩
theorem se_var {i : Nat} (h : PE X a (tVar i)) (he : ∀ whole, isTrue a X.env whole = (do let v ← whole; standAt a.pos; holding [v] (truthy v))) : SE X c xp (.var i) a := .plain rfl (pe_getVar h) he
theorem se_rd {i : Nat} (h : PE X a (tVar i)) (he : ∀ whole, isTrue a X.env whole = (do let v ← whole; standAt a.pos; holding [v] (truthy v))) : SE X c xp (.rd i) a :=
  SE.mk (e := .rd i) (fun q => nomatch q) (rO_rd h) (ptI (pt_truth (rO_rd (Z := zx X) (xp := xp) (m := ev c (.rd i)) h) he) (test_imp (Z := zx X) (xp := xp) (r := some i)))
theorem pe_frzS {e : E} (h : SE X c xp e a) : PE X a (rF (zx X) xp (strong (isRd e) (ev c e))) := pe_frz (pe_strong h)

/-! ### and, or -/
structure SAnd (X : Cx) (c : Cfg) (xp : Xp (zx X)) (es : Es) (xs : List Expr) (pos : Pos) : Prop where
  s : PE X (.BoolOp .And xs pos) (rS (zx X) xp (evAnd c es))
  w : PW X (.BoolOp .And xs pos) (rT (zx X) xp (testM none (evAnd c es)))
structure SOr (X : Cx) (c : Cfg) (xp : Xp (zx X)) (es : Es) (xs : List Expr) (pos : Pos) : Prop where
  s : PE X (.BoolOp .Or xs pos) (rS (zx X) xp (evOr c es))
  w : PW X (.BoolOp .Or xs pos) (rT (zx X) xp (testM none (evOr c es)))
variable {pos : Pos} {es : Es} {xs : List Expr}
theorem pt_strong {e : E} (h : SE X c xp e a) : PT X a (rT (zx X) xp (testM none (strong (isRd e) (ev c e)))) := by
  cases q : isRd e with
  | none =>
    have := h.t
    rw [q] at this
    exact this
  | some i => exact ⟨fun pins s σ H Q I ⟨_, _, _, _, _, out⟩ => out.elim⟩
theorem sand_one {e : E} (h : SE X c xp e a) : SAnd X c xp (.cons e .nil) [a] pos := ⟨pe_one (pe_strong h), pw_and1 (pt_strong h)⟩
theorem sor_one {e : E} (h : SE X c xp e a) : SOr X c xp (.cons e .nil) [a] pos := ⟨pe_one (pe_strong h), pw_or1 (pt_strong h)⟩
theorem sand_cons {e f : E} (h : SE X c xp e a) (r : SAnd X c xp (.cons f es) (b :: xs) pos) : SAnd X c xp (.cons e (.cons f es)) (a :: b :: xs) pos := by
  refine ⟨peI (pe_andT (pe_strong h) r.s) fun σ H Q ⟨Sh, F, ms, env, sr, out⟩ => ?_, pwI (pw_and (pt_strong h) r.w) fun σ H Q ⟨Sh, F, ms, env, sr, out⟩ => ?_⟩
  · have out : Out ((strong (isRd e) (ev c e) env).bind _) _ _ := out
    refine ⟨Sh, F, ms, env, sr, out.bind.imp (fun t e1 h1 v H1 Sh1 A s1 r1 a1 => ?_) fun _ _ _ x => x⟩
    cases q : tru t with
    | none => rw [q] at h1; exact h1.elim
    | some k =>
      rw [q] at h1
      refine ⟨k, truV_of s1 r1 q, ?_⟩
      cases k with
      | true =>
        rw [if_pos rfl]
        exact ⟨Sh1, F, ms, e1, s1.less, (show Out (evAnd c (.cons f es) e1) _ _ from h1).imp (fun t e2 h2 v H' Sh' A s2 r2 a2 => h2 v H' Sh' A s2 r2 (a1.trans a2)) fun _ _ _ x => xp.mono [] a1 x⟩
      | false =>
        rw [if_neg Bool.false_ne_true]
        exact (show ∀ v H' Sh' A, _ from h1) v H1 Sh1 A s1 r1 a1
  · have o2 : Out ((strong (isRd e) (ev c e) env).bind _) _ _ := out_test out
    refine ⟨Sh, F, ms, env, sr, ?_⟩
    refine out_test' rfl (o2.bind.imp (fun t e1 h1 => ?_) fun _ _ _ x => x)
    cases q : tru t with
    | none => rw [q] at h1; exact h1.elim
    | some k =>
      rw [q] at h1
      refine ⟨k, rfl, fun H1 Sh1 s1 a1 => ?_⟩
      cases k with
      | true =>
        rw [if_pos rfl]
        exact ⟨Sh1, F, ms, e1, s1, out_test' rfl ((show Out (evAnd c (.cons f es) e1) _ _ from h1).imp (fun t e2 ⟨k, hk, h2⟩ => ⟨k, hk, fun H' Sh' s2 a2 => h2 H' Sh' s2 (a1.trans a2)⟩) fun _ _ _ x => xp.mono [] a1 x)⟩
      | false =>
        rw [if_neg Bool.false_ne_true]
        obtain ⟨k2, hk2, h2⟩ := (show ∃ k, tru t = some k ∧ _ from h1)
        rw [q] at hk2; cases hk2
        exact h2 H1 Sh1 s1 a1
theorem sor_cons {e f : E} (h : SE X c xp e a) (r : SOr X c xp (.cons f es) (b :: xs) pos) : SOr X c xp (.cons e (.cons f es)) (a :: b :: xs) pos := by
  refine ⟨peI (pe_orT (pe_strong h) r.s) fun σ H Q ⟨Sh, F, ms, env, sr, out⟩ => ?_, pwI (pw_or (pt_strong h) r.w) fun σ H Q ⟨Sh, F, ms, env, sr, out⟩ => ?_⟩
  · have out : Out ((strong (isRd e) (ev c e) env).bind _) _ _ := out
    refine ⟨Sh, F, ms, env, sr, out.bind.imp (fun t e1 h1 v H1 Sh1 A s1 r1 a1 => ?_) fun _ _ _ x => x⟩
    cases q : tru t with
    | none => rw [q] at h1; exact h1.elim
    | some k =>
      rw [q] at h1
      refine ⟨k, truV_of s1 r1 q, ?_⟩
      cases k with
      | false =>
        rw [if_neg Bool.false_ne_true]
        exact ⟨Sh1, F, ms, e1, s1.less, (show Out (evOr c (.cons f es) e1) _ _ from h1).imp (fun t e2 h2 v H' Sh' A s2 r2 a2 => h2 v H' Sh' A s2 r2 (a1.trans a2)) fun _ _ _ x => xp.mono [] a1 x⟩
      | true =>
        rw [if_pos rfl]
        exact (show ∀ v H' Sh' A, _ from h1) v H1 Sh1 A s1 r1 a1
  · have o2 : Out ((strong (isRd e) (ev c e) env).bind _) _ _ := out_test out
    refine ⟨Sh, F, ms, env, sr, ?_⟩
    refine out_test' rfl (o2.bind.imp (fun t e1 h1 => ?_) fun _ _ _ x => x)
    cases q : tru t with
    | none => rw [q] at h1; exact h1.elim
    | some k =>
      rw [q] at h1
      refine ⟨k, rfl, fun H1 Sh1 s1 a1 => ?_⟩
      cases k with
      | false =>
        rw [if_neg Bool.false_ne_true]
        exact ⟨Sh1, F, ms, e1, s1, out_test' rfl ((show Out (evOr c (.cons f es) e1) _ _ from h1).imp (fun t e2 ⟨k, hk, h2⟩ => ⟨k, hk, fun H' Sh' s2 a2 => h2 H' Sh' s2 (a1.trans a2)⟩) fun _ _ _ x => xp.mono [] a1 x)⟩
      | true =>
        rw [if_pos rfl]
        obtain ⟨k2, hk2, h2⟩ := (show ∃ k, tru t = some k ∧ _ from h1)
        rw [q] at hk2; cases hk2
        exact h2 H1 Sh1 s1 a1
theorem se_and (r : SAnd X c xp es xs pos) : SE X c xp (.and es) (.BoolOp .And xs pos) := .test rfl r.s (PW.pt r.w)
theorem se_or (r : SOr X c xp es xs pos) : SE X c xp (.or es) (.BoolOp .Or xs pos) := .test rfl r.s (PW.pt r.w)
end
end Vi

set_option autoImplicit false
set_option Elab.async false
set_option linter.all false
set_option maxRecDepth 100000
/-! VI: displays, subscripts, slices, built-ins. -/
namespace Vi
open PySem PySem.Spec PyProof.Rows L2
section
variable {X : Cx} {c : Cfg} {xp : Xp (zx X)} {e : E} {a b d : Expr} {pos : Pos} {es : Es} {xs : List Expr}
def notStar : Expr → Bool
  | .Starred _ _ => false
  | _ => true
theorem star_of {env : PySem.Env} (h : notStar a = true) : starEach (a :: xs) env = (false, eval a env) :: starEach xs env := by
  cases a <;> first | rfl | cases h
/-- values to be kept -/
def rA (Z : Rw) (xp : Xp Z) (m : M (List T)) : TA := fun σ H Q => ∃ Sh F ms env, SR Z Sh F ms σ H env ∧
  Out (m env) (fun ts env' => ∀ vs H' Sh', SR Z Sh' F ms σ H' env' → RpL Z Sh' vs ts → Aft Sh F H Sh' H' → Q vs H') (xp.p Sh F ms H)
theorem sa_nil : PA X [] (rA (zx X) xp (evs c .nil)) := paI pa_nil fun σ H Q ⟨Sh, F, ms, env, sr, out⟩ => (show Out (R.ok [] env) _ _ from out) [] H Sh sr RpL.nil Aft.refl
theorem sa_cons (h : SE X c xp e a) (hr : PA X xs (rA (zx X) xp (evs c es))) (hs : notStar a = true) : PA X (a :: xs) (rA (zx X) xp (evs c (.cons e es))) :=
  paI (pa_cons (pe_frzS h) hr (star_of hs)) fun σ H Q ⟨Sh, F, ms, env, sr, out⟩ => by
    have out : Out ((strong (isRd e) (ev c e) env).bind fun t e => (evs c es e).bind fun l e => R.ok (fz t :: l) e) _ _ := out
    refine ⟨Sh, F, ms, env, sr, out.bind.imp (fun t e1 h1 v H1 Sh1 s1 r1 a1 => ?_) fun _ _ _ x => x⟩
    refine ⟨Sh1, F, ms, e1, s1, h1.bind.imp (fun l e2 h2 vs H2 Sh2 s2 r2 a2 => ?_) fun _ _ _ x => xp.mono [] a1 x⟩
    exact (show ∀ vs H' Sh', _ from h2) (v :: vs) H2 Sh2 s2 (r2.cons (r1.mono a2.grow)) (a1.trans a2)
def esLen : Es → Nat
  | .nil => 0
  | .cons _ es => esLen es + 1
theorem evs_len : ∀ (es : Es) (env e : Env) (ts : List T), evs c es env = .ok ts e → ts.length = esLen es
  | .nil, env, e, ts, h => by
    have h : R.ok ([] : List T) env = .ok ts e := h
    cases h; rfl
  | .cons x es, env, e, ts, h => by
    have h : ((strong (isRd x) (ev c x) env).bind fun t e => (evs c es e).bind fun l e => R.ok (fz t :: l) e) = .ok ts e := h
    obtain ⟨t, e1, _, h⟩ := bind_ok h
    obtain ⟨l, e2, h1, h⟩ := bind_ok h
    cases h
    show l.length + 1 = esLen es + 1
    rw [evs_len es e1 _ l h1]
theorem out_len {env : Env} {P : List T → Env → Prop} {Y : Nat → T → Env → Prop} (h : Out (evs c es env) P Y) : Out (evs c es env) (fun ts e => ts.length = esLen es ∧ P ts e) Y := by
  cases q : evs c es env with
  | no => rw [q] at h; exact h
  | ex k d e => rw [q] at h; exact h
  | ok ts e => rw [q] at h; exact ⟨evs_len es env e ts q, h⟩
theorem se_tup {k : Nat} (h : PA X xs (rA (zx X) xp (evs c es))) (hl : esLen es ≤ 1000) : SE X c xp (.tup es) (.Tuple xs k pos) := by
  refine .plain rfl (peI (pe_tup h) fun σ H Q ⟨Sh, F, ms, env, sr, out⟩ => ?_) (fun _ => rfl)
  have out : Out ((evs c es env).bind fun l e => R.ok (T.tup l) e) _ _ := out
  refine ⟨Sh, F, ms, env, sr, (out_len out.bind).imp (fun ts e1 ⟨hn, h1⟩ vs H1 Sh1 s1 r1 a1 => ⟨?_, fun p hp => ?_⟩) fun _ _ _ x => x⟩
  · have hz := sizeLine_eq; rw [r1.1, hz]; omega
  · exact Fin.newT (Z := zx X) (F := F) (fun v H' Sh' C s3 r3 a3 => (show ∀ v H' Sh' A, _ from h1) v H' Sh' C s3 r3 (a1.trans a3)) s1 r1 hp
theorem se_lst (h : PA X xs (rA (zx X) xp (evs c es))) (hl : esLen es ≤ 1000) : SE X c xp (.lst es) (.List xs pos) := by
  refine .plain rfl (peI (pe_lst h) fun σ H Q ⟨Sh, F, ms, env, sr, out⟩ => ?_) (fun _ => rfl)
  have out : Out ((evs c es env).bind fun l e => R.ok (T.lst true l) e) _ _ := out
  refine ⟨Sh, F, ms, env, sr, (out_len out.bind).imp (fun ts e1 ⟨hn, h1⟩ vs H1 Sh1 s1 r1 a1 => ⟨?_, fun p hp => ?_⟩) fun _ _ _ x => x⟩
  · have hz := sizeLine_eq; rw [r1.1, hz]; omega
  · exact Fin.newL (Z := zx X) (F := F) (fun v H' Sh' C s3 r3 a3 => (show ∀ v H' Sh' A, _ from h1) v H' Sh' C s3 r3 (a1.trans a3)) s1 r1 hp

/-! ### a dict that is written with ints and texts as keys -/
theorem keyT_inj {k j : Key} (h : keyT k = keyT j) : k = j := by
  cases k <;> cases j <;> simp [keyT] at h
  · rw [h]
  · rename_i a b
    have : a.cps = b.cps := h
    cases a; cases b; cases this; rfl
theorem keq_keyT (k j : Key) : keq (keyT k) (keyT j) = decide (k = j) := by
  cases k <;> cases j <;> simp only [keyT, keq]
  · rename_i a b
    rw [key_ll]
  · rw [key_lr]
  · rw [key_rl]
  · rename_i a b
    rw [key_rr, Bool.eq_iff_iff]
    simp only [beq_iff_eq, decide_eq_true_eq]
    exact ⟨fun h => by cases a; cases b; simp only [Array.toList_inj] at h; rw [h], fun h => by rw [h]⟩
/-- int and text keys: the model's dict and the plain one -/
structure KR (Z : Rw) (Sh : Hp) (kvs : List (Key × V)) (l : List (T × T)) : Prop where
  hk : kvs.map (fun p => keyT p.1) = l.map (·.1)
  hv : RpL Z Sh (kvs.map (·.2)) (l.map (·.2))
variable {Z : Rw} {Sh Sh' : Hp}
theorem any_rel (k : Key) : ∀ {kvs : List (Key × V)} {l : List (T × T)}, kvs.map (fun p => keyT p.1) = l.map (·.1) → (kvs.any fun kv => decide (kv.1 = k)) = dhas l (keyT k)
  | [], [], _ => rfl
  | [], _ :: _, h => by simp at h
  | _ :: _, [], h => by simp at h
  | p :: kvs, q :: l, h => by
    simp only [List.map_cons, List.cons.injEq] at h
    unfold dhas
    rw [List.any_cons, List.any_cons, ← h.1, keq_keyT]
    have := any_rel k (kvs := kvs) (l := l) h.2
    unfold dhas at this
    rw [this]
theorem putK_keys (k : Key) (v : V) (t : T) {kvs : List (Key × V)} {l : List (T × T)} (h : kvs.map (fun p => keyT p.1) = l.map (·.1)) : (putK kvs k v).map (fun p => keyT p.1) = (dput l (keyT k) t).map (·.1) := by
  unfold putK dput
  rw [any_rel k h]
  by_cases c : dhas l (keyT k) = true
  · rw [if_pos c, if_pos c, List.map_map, List.map_map]
    have e1 : (fun p : Key × V => keyT p.1) ∘ (fun kv => if kv.1 = k then (kv.1, v) else kv) = fun p => keyT p.1 := by
      funext p; simp only [Function.comp]; split <;> rfl
    have e2 : (fun p : T × T => p.1) ∘ (fun p => if keq p.1 (keyT k) = true then (p.1, t) else p) = fun p => p.1 := by
      funext p; simp only [Function.comp]; split <;> rfl
    first
      | rw [e1, e2]; exact h
      | (simp only [Function.comp_def] at *; simp only [apply_ite Prod.fst, ite_self] at *; simpa using h)
  · rw [if_neg c, if_neg c, List.map_append, List.map_append, h]
    rfl
theorem KR.put {kvs : List (Key × V)} {l : List (T × T)} (r : KR Z Sh kvs l) (k : Key) {v : V} {t : T} (h : Rp Z Sh v t) : KR Z Sh (putK kvs k v) (dput l (keyT k) t) := by
  refine ⟨putK_keys k v t r.hk, ?_⟩
  unfold putK dput
  rw [any_rel k r.hk]
  by_cases c : dhas l (keyT k) = true
  · rw [if_pos c, if_pos c]
    refine ⟨by have := r.hv.1; simpa using this, fun i w u h1 h2 => ?_⟩
    rw [List.getElem?_map, List.getElem?_map] at h1 h2
    cases e1 : kvs[i]? with
    | none => rw [e1] at h1; cases h1
    | some p =>
      cases e2 : l[i]? with
      | none => rw [e2] at h2; cases h2
      | some q =>
        rw [e1] at h1; rw [e2] at h2
        have hq : keyT p.1 = q.1 := by
          have := congrArg (fun z => z[i]?) r.hk
          simp only [List.getElem?_map, e1, e2] at this
          exact Option.some.inj this
        have hpq := r.hv.2 i p.2 q.2 (by rw [List.getElem?_map, e1]; rfl) (by rw [List.getElem?_map, e2]; rfl)
        simp only [Option.map_some, Option.some.injEq] at h1 h2
        rw [← hq, keq_keyT] at h2
        by_cases z : p.1 = k
        · rw [if_pos z] at h1
          rw [if_pos (decide_eq_true z)] at h2
          rw [← h1, ← h2]; exact h
        · rw [if_neg z] at h1
          rw [if_neg (by simpa using z)] at h2
          rw [← h1, ← h2]; exact hpq
  · rw [if_neg c, if_neg c, List.map_append, List.map_append]
    exact r.hv.append (RpL.nil.cons h)
theorem KR.mono {kvs : List (Key × V)} {l : List (T × T)} (r : KR Z Sh kvs l) (g : Grow Sh Sh') : KR Z Sh' kvs l := ⟨r.hk, r.hv.mono g⟩
theorem KR.nil : KR Z Sh [] [] := ⟨rfl, RpL.nil⟩
theorem VRep.ofRpL {H : Hp} : ∀ {vs : List V} {ts : List T}, RpL Z Sh vs ts → VRep Z Sh H vs ts []
  | [], [], _ => .nil
  | [], _ :: _, h => by have := h.1; simp at this
  | _ :: _, [], h => by have := h.1; simp at this
  | _ :: _, _ :: _, h => .sh h.head (VRep.ofRpL h.tail)
theorem kind0_key {t : T} (h : kind? t = some false) : ∃ k : Key, keyT k = t ∧ ∀ {Sh : Hp} {v : V}, Rp Z Sh v t → v = kV k := by
  cases t <;> simp only [kind?] at h <;> try (cases h; done)
  · exact ⟨.inl _, rfl, fun r => by cases r; rfl⟩
  · rename_i s
    refine ⟨.inr (sOf s), ?_, fun r => by cases r; rfl⟩
    show T.str (sOf s).cps.toList = _
    rw [sOf_cps]
  · split at h <;> cases h
end
end Vi

set_option autoImplicit false
set_option Elab.async false
set_option linter.all false
set_option maxRecDepth 100000
/-! VI: dicts. -/
namespace Vi
open PySem PySem.Spec PyProof.Rows L2
section
variable {X : Cx} {pins : List (Addr × Obj)} {σ : L2.St} {H Sh : Hp} {s : Shared}
/-! ### keys that are tuples -/
mutual
theorem nk_inj : ∀ (n m : Nat) (a b : T), isPart n a = true → isPart m b = true → nk a = nk b → a = b
  | n + 1, m + 1, .tup l, .tup k, h, q, e => by
    have e' : nks l = nks k := by simpa [nk] using e
    rw [nks_inj n m l k (by simpa [isPart] using h) (by simpa [isPart] using q) e']
  | 0, _, .tup l, _, h, q, e => by simp [isPart] at h
  | _, 0, _, .tup l, h, q, e => by simp [isPart] at q
  | _, _, .und, _, h, q, e => by simp [isPart] at h
  | _, _, .bl _, _, h, q, e => by simp [isPart] at h
  | _, _, .lst _ _, _, h, q, e => by simp [isPart] at h
  | _, _, .dic _ _, _, h, q, e => by simp [isPart] at h
  | _, _, _, .und, h, q, e => by simp [isPart] at q
  | _, _, _, .bl _, h, q, e => by simp [isPart] at q
  | _, _, _, .lst _ _, h, q, e => by simp [isPart] at q
  | _, _, _, .dic _ _, h, q, e => by simp [isPart] at q
  | _, _, .non, .non, _, _, _ => rfl
  | _, _, .non, .int _, h, q, e => by simp [nk] at e
  | _, _, .non, .str _, h, q, e => by simp [nk] at e
  | _, _, .non, .tup _, h, q, e => by simp [nk] at e
  | _, _, .int _, .non, h, q, e => by simp [nk] at e
  | _, _, .int a, .int b, h, q, e => by simp [nk] at e; rw [e]
  | _, _, .int _, .str _, h, q, e => by simp [nk] at e
  | _, _, .int _, .tup _, h, q, e => by simp [nk] at e
  | _, _, .str _, .non, h, q, e => by simp [nk] at e
  | _, _, .str _, .int _, h, q, e => by simp [nk] at e
  | _, _, .str a, .str b, h, q, e => by
    have e' : sOf a = sOf b := by simpa [nk] using e
    rw [sOf_inj e']
  | _, _, .str _, .tup _, h, q, e => by simp [nk] at e
  | _, _, .tup _, .non, h, q, e => by simp [nk] at e
  | _, _, .tup _, .int _, h, q, e => by simp [nk] at e
  | _, _, .tup _, .str _, h, q, e => by simp [nk] at e
theorem nks_inj : ∀ (n m : Nat) (l k : List T), isParts n l = true → isParts m k = true → nks l = nks k → l = k
  | _, _, [], [], _, _, _ => rfl
  | _, _, [], _ :: _, _, _, e => by simp [nks] at e
  | _, _, _ :: _, [], _, _, e => by simp [nks] at e
  | n, m, a :: l, b :: k, h, q, e => by
    have h' : isPart n a = true ∧ isParts n l = true := by simpa [isParts] using h
    have q' : isPart m b = true ∧ isParts m k = true := by simpa [isParts] using q
    have e' : nk a = nk b ∧ nks l = nks k := by simpa [nks] using e
    rw [nk_inj n m a b h'.1 q'.1 e'.1, nks_inj n m l k h'.2 q'.2 e'.2]
end
mutual
theorem keq_nk : ∀ (n m : Nat) (a b : T), isPart n a = true → isPart m b = true → keq a b = decide (nk a = nk b)
  | n + 1, m + 1, .tup l, .tup k, h, q => by
    rw [keq, keqs_nk n m l k (by simpa [isPart] using h) (by simpa [isPart] using q)]
    simp [nk]
  | 0, _, .tup l, _, h, q => by simp [isPart] at h
  | _, 0, _, .tup l, h, q => by simp [isPart] at q
  | _, _, .und, _, h, q => by simp [isPart] at h
  | _, _, .bl _, _, h, q => by simp [isPart] at h
  | _, _, .lst _ _, _, h, q => by simp [isPart] at h
  | _, _, .dic _ _, _, h, q => by simp [isPart] at h
  | _, _, _, .und, h, q => by simp [isPart] at q
  | _, _, _, .bl _, h, q => by simp [isPart] at q
  | _, _, _, .lst _ _, h, q => by simp [isPart] at q
  | _, _, _, .dic _ _, h, q => by simp [isPart] at q
  | _, _, .non, .non, _, _ => by simp [keq, nk]
  | _, _, .non, .int _, h, q => by simp [keq, nk]
  | _, _, .non, .str _, h, q => by simp [keq, nk]
  | _, _, .non, .tup _, h, q => by simp [keq, nk]
  | _, _, .int _, .non, h, q => by simp [keq, nk]
  | _, _, .int a, .int b, h, q => by simp [keq, nk]; rfl
  | _, _, .int _, .str _, h, q => by simp [keq, nk]
  | _, _, .int _, .tup _, h, q => by simp [keq, nk]
  | _, _, .str _, .non, h, q => by simp [keq, nk]
  | _, _, .str _, .int _, h, q => by simp [keq, nk]
  | _, _, .str a, .str b, h, q => by
    simp only [keq, nk, NestedKey.text.injEq]
    rw [Bool.eq_iff_iff]
    simp only [beq_iff_eq, decide_eq_true_eq]
    exact ⟨fun e => by rw [e], sOf_inj⟩
  | _, _, .str _, .tup _, h, q => by simp [keq, nk]
  | _, _, .tup _, .non, h, q => by simp [keq, nk]
  | _, _, .tup _, .int _, h, q => by simp [keq, nk]
  | _, _, .tup _, .str _, h, q => by simp [keq, nk]
theorem keqs_nk : ∀ (n m : Nat) (l k : List T), isParts n l = true → isParts m k = true → keqs l k = decide (nks l = nks k)
  | _, _, [], [], _, _ => by simp [keqs, nks]
  | _, _, [], _ :: _, _, _ => by simp [keqs, nks]
  | _, _, _ :: _, [], _, _ => by simp [keqs, nks]
  | n, m, a :: l, b :: k, h, q => by
    have h' : isPart n a = true ∧ isParts n l = true := by simpa [isParts] using h
    have q' : isPart m b = true ∧ isParts m k = true := by simpa [isParts] using q
    rw [keqs, keq_nk n m a b h'.1 q'.1, keqs_nk n m l k h'.2 q'.2]
    simp [nks, Bool.decide_and]
end
mutual
theorem nis_of (I : Inv X pins σ H s) (g : Grow Sh H) : ∀ (n : Nat) (t : T) (v : V) (u : Value), isPart n t = true → Rp (zx X) Sh v t → RelV v u → NestedIs s.heap (nk t) u ∧ (nk t).depth ≤ n
  | _, .non, v, u, h, r, q => by cases r; cases q; exact ⟨.none, by simp [nk, NestedKey.depth]⟩
  | _, .int i, v, u, h, r, q => by cases r; obtain ⟨t, rfl⟩ := q; exact ⟨.int i t, by simp [nk, NestedKey.depth]⟩
  | _, .str x, v, u, h, r, q => by cases r; obtain ⟨t, rfl⟩ := q; exact ⟨.text _ t, by simp [nk, NestedKey.depth]⟩
  | n + 1, .tup l, v, u, h, r, q => by
    cases r with
    | tup hq hl hs =>
      cases q
      obtain ⟨its, rv, ⟨o, ho, hc, k, hd⟩, _⟩ := I.tuple (Grow.sqT g hq)
      obtain ⟨h1, h2⟩ := niss_of I g n l _ its (by simpa [isPart] using h) ⟨hl, hs⟩ rv
      exact ⟨.tup ho hc hd (by simpa using h1), by simp [nk, NestedKey.depth]; omega⟩
  | 0, .tup l, v, u, h, r, q => by simp [isPart] at h
  | _, .und, v, u, h, r, q => by simp [isPart] at h
  | _, .bl _, v, u, h, r, q => by simp [isPart] at h
  | _, .lst _ _, v, u, h, r, q => by simp [isPart] at h
  | _, .dic _ _, v, u, h, r, q => by simp [isPart] at h
theorem niss_of (I : Inv X pins σ H s) (g : Grow Sh H) : ∀ (n : Nat) (l : List T) (vs : List V) (us : List Value), isParts n l = true → RpL (zx X) Sh vs l → Vals vs us → NestedAll s.heap (nks l) us ∧ NestedKey.depthAll (nks l) ≤ n
  | n, [], vs, us, h, r, q => by
    rw [r.inv_nil] at q
    cases q
    exact ⟨.nil, by simp [nks, NestedKey.depthAll]⟩
  | n, a :: l, vs, us, h, r, q => by
    obtain ⟨v, vr, rfl, r1, r2⟩ := r.inv_cons
    have h' : isPart n a = true ∧ isParts n l = true := by simpa [isParts] using h
    cases q with
    | cons q1 q2 =>
      obtain ⟨h1, h2⟩ := nis_of I g n a v _ h'.1 r1 q1
      obtain ⟨h3, h4⟩ := niss_of I g n l vr _ h'.2 r2 q2
      exact ⟨.cons h1 h3, by simp [nks, NestedKey.depthAll]; omega⟩
end
theorem key1_tup {t : T} (h : kind? t = some true) : ∃ l, t = .tup l ∧ isParts 7 l = true := by
  cases t <;> simp only [kind?] at h <;> try (cases h; done)
  rename_i l
  split at h
  · rename_i h1; exact ⟨l, rfl, h1⟩
  · cases h
theorem key1_is (I : Inv X pins σ H s) (g : Grow Sh H) {t : T} {b : Addr} (h : kind? t = some true) (r : Rp (zx X) Sh (.ref b) t) : (nestedKind X.prog X.w).is s.heap (nk t) b := by
  obtain ⟨l, rfl, hp⟩ := key1_tup h
  exact nis_of I g 8 (.tup l) (.ref b) (.ref b) (by simpa [isPart] using hp) r rfl
theorem key1_ref {Z : Rw} {t : T} {v : V} (h : kind? t = some true) (r : Rp Z Sh v t) : ∃ b, v = .ref b := by
  obtain ⟨l, rfl, _⟩ := key1_tup h
  cases r with | tup _ _ _ => exact ⟨_, rfl⟩
/-- the entries' keys are there -/
def KeysIn (Z : Rw) (Sh : Hp) (xs : List (NestedKey × Addr × V)) : Prop := ∀ p ∈ xs, ∃ t, kind? t = some true ∧ nk t = p.1 ∧ Rp Z Sh (.ref p.2.1) t
def lookK (xs : List (NestedKey × Addr × V)) (k : NestedKey) : Option V := (xs.find? fun p => decide (p.1 = k)).map (·.2.2)
/-- what a dict has at a key -/
def DLook (Z : Rw) (Sh H : Hp) (a : Addr) (y : V) (o : Option V) : Prop := Grow Sh H ∧
  ((∃ kvs key, Rd H a (.dK kvs) ∧ y = kV key ∧ o = valV kvs key) ∨
   (∃ xs b t, Rd H a (keyedO Z.P Z.w a xs) ∧ y = .ref b ∧ kind? t = some true ∧ Rp Z Sh (.ref b) t ∧ KeysIn Z Sh xs ∧ o = lookK xs (nk t)) ∨
   (∃ b t, Rd H a (.dK []) ∧ y = .ref b ∧ kind? t = some true ∧ Rp Z Sh (.ref b) t ∧ o = none))
/-- a keyed dict, as the library has it -/
theorem keyed_at (I : Inv X pins σ H s) (g : Grow Sh H) {a : Addr} {xs : List (NestedKey × Addr × V)} (h : Rd H a (keyedO X.prog X.w a xs)) (hk : KeysIn (zx X) Sh xs) :
    (a == sysModules) = false ∧ xs.length ≤ sizeLine ∧ ∃ ys : List (NestedKey × Addr × Value), Paired (fun (p : NestedKey × Addr × V) (q : NestedKey × Addr × Value) => p.1 = q.1 ∧ p.2.1 = q.2.1 ∧ RelV p.2.2 q.2.2) xs ys ∧ s.heap.DictOfH (nestedKind X.prog X.w) a ys := by
  obtain ⟨⟨h1, h2, ys, r, o, es, ep, e1, e2, e3, e4, e5⟩, _⟩ := h.ok I.hok
  refine ⟨h1, h2, ys, r, o, es, ep, e1, e2, e3, e4, fun y hy => ?_, e5⟩
  obtain ⟨i, hi⟩ := List.getElem?_of_mem hy
  have : ∃ p, xs[i]? = some p ∧ p.1 = y.1 ∧ p.2.1 = y.2.1 := by
    have aux : ∀ {xs : List (NestedKey × Addr × V)} {ys : List (NestedKey × Addr × Value)} (i : Nat), Paired (fun (p : NestedKey × Addr × V) (q : NestedKey × Addr × Value) => p.1 = q.1 ∧ p.2.1 = q.2.1 ∧ RelV p.2.2 q.2.2) xs ys → ys[i]? = some y → ∃ p, xs[i]? = some p ∧ p.1 = y.1 ∧ p.2.1 = y.2.1 := by
      intro xs ys i r
      induction r generalizing i with
      | nil => intro h; simp at h
      | cons h _ ih =>
        intro e
        cases i with
        | zero => simp at e; subst e; exact ⟨_, rfl, h.1, h.2.1⟩
        | succ i => exact ih i (by simpa using e)
    exact aux i r hi
  obtain ⟨p, hp, p1, p2⟩ := this
  obtain ⟨t, t1, t2, t3⟩ := hk p (List.mem_of_getElem? hp)
  rw [← p1, ← p2, ← t2]
  exact key1_is I g t1 t3
theorem look_rel {xs : List (NestedKey × Addr × V)} {ys : List (NestedKey × Addr × Value)} (k : NestedKey) (r : Paired (fun (p : NestedKey × Addr × V) (q : NestedKey × Addr × Value) => p.1 = q.1 ∧ p.2.1 = q.2.1 ∧ RelV p.2.2 q.2.2) xs ys) :
    RelO (lookK xs k) ((atKey ys k).map (·.2)) := by
  unfold lookK
  induction r with
  | nil => trivial
  | @cons p q _ _ h _ ih =>
    rw [List.find?_cons]
    by_cases e : p.1 = k
    · rw [decide_eq_true e]
      have e2 : q.1 = k := by rw [← h.1]; exact e
      simp [atKey, e2]
      exact h.2.2
    · rw [decide_eq_false e]
      have e2 : ¬ q.1 = k := by rw [← h.1]; exact e
      simpa [atKey, e2] using ih
/-- an empty dict is one of any keys -/
theorem empty_at (I : Inv X pins σ H s) {a : Addr} (h : Rd H a (.dK [])) : (a == sysModules) = false ∧ s.heap.DictOfH (nestedKind X.prog X.w) a [] := by
  obtain ⟨_, h1, vs, r, o, es, ep, e1, e2, e3, e4, e5⟩ := dk_rd I.hok h
  cases r
  refine ⟨h1, o, es, ep, e1, e2, e3, ?_, (fun _ z => nomatch z), List.nodup_nil⟩
  have q := e5.1
  generalize es.toList = L at q ⊢
  cases q
  rfl
theorem room8 {A : Around} (hu : A.units + 65 < cLine) : (nestedKind X.prog X.w).room A.in1 := by
  show A.units + 1 + 8 < cLine
  omega
variable {A : Around} {E : Value → Shared → Prop} {a : Addr} {y v d : V} {u r : Value} {o : Option V}
/-- y in x -/
theorem zd_in {Q : Value → Shared → Prop} (hu : A.units + 65 < cLine) (I : Inv X pins σ H s) (g : DLook (zx X) Sh H a y o) (ry : RelV y u) (h : ∀ s', Inv X pins σ H s' → Q (.bool o.isSome) s') :
    wpAny (model X.prog X.w) A (compareOp .In u (.ref a)) Q E s := by
  obtain ⟨gr, ⟨kvs, k, e, ey, l⟩ | ⟨xs, b, t, e, ey, hk, hr, hx, l⟩ | ⟨b, t, e, ey, hk, hr, l⟩⟩ := g
  · subst l
    exact d_in (by omega) I (.inl ⟨kvs, k, e, ey, rfl⟩) ry h
  · subst ey
    cases (show u = Value.ref b from ry)
    obtain ⟨h1, h2, ys, rel, dd⟩ := keyed_at I gr e hx
    refine wpAny_in_heap (room8 hu) (key1_is I gr hk hr) h1 dd ?_
    have e2 : (atKey ys (nk t)).isSome = o.isSome := by
      rw [l, (look_rel (nk t) rel).isSome_eq, Option.isSome_map]
    rw [e2]
    exact h _ (I.tok _)
  · subst ey
    cases (show u = Value.ref b from ry)
    obtain ⟨h1, dd⟩ := empty_at I e
    refine wpAny_in_heap (room8 hu) (key1_is I gr hk hr) h1 dd ?_
    rw [l] at h
    exact h _ (I.tok _)
theorem zd_notIn {Q : Value → Shared → Prop} (hu : A.units + 65 < cLine) (I : Inv X pins σ H s) (g : DLook (zx X) Sh H a y o) (ry : RelV y u) (h : ∀ s', Inv X pins σ H s' → Q (.bool (!o.isSome)) s') :
    wpAny (model X.prog X.w) A (compareOp .NotIn u (.ref a)) Q E s := by
  obtain ⟨gr, ⟨kvs, k, e, ey, l⟩ | ⟨xs, b, t, e, ey, hk, hr, hx, l⟩ | ⟨b, t, e, ey, hk, hr, l⟩⟩ := g
  · subst l
    exact d_notIn (by omega) I (.inl ⟨kvs, k, e, ey, rfl⟩) ry h
  · subst ey
    cases (show u = Value.ref b from ry)
    obtain ⟨h1, h2, ys, rel, dd⟩ := keyed_at I gr e hx
    show wpAny _ _ (do return .bool (!(← contains (.ref a) (.ref b)))) Q E s
    refine wpAny_bind (wpAny_contains_heap (room8 hu) (key1_is I gr hk hr) h1 dd (wpAny_pure ?_))
    have e2 : (atKey ys (nk t)).isSome = o.isSome := by
      rw [l, (look_rel (nk t) rel).isSome_eq, Option.isSome_map]
    rw [e2]
    exact h _ (I.tok _)
  · subst ey
    cases (show u = Value.ref b from ry)
    obtain ⟨h1, dd⟩ := empty_at I e
    show wpAny _ _ (do return .bool (!(← contains (.ref a) (.ref b)))) Q E s
    refine wpAny_bind (wpAny_contains_heap (room8 hu) (key1_is I gr hk hr) h1 dd (wpAny_pure ?_))
    rw [l] at h
    exact h _ (I.tok _)
/-- x[y] -/
theorem zd_getItem {Q : Value → Shared → Prop} (hu : A.units + 65 < cLine) (I : Inv X pins σ H s) (g : DLook (zx X) Sh H a y (some v)) (ry : RelV y u) (h : ∀ w' s', Inv X pins σ H s' → RelV v w' → Q w' s') :
    wpAny (model X.prog X.w) A (getItem (.ref a) u) Q E s := by
  obtain ⟨gr, ⟨kvs, k, e, ey, l⟩ | ⟨xs, b, t, e, ey, hk, hr, hx, l⟩ | ⟨b, t, e, ey, hk, hr, l⟩⟩ := g
  · exact d_getItem (by omega) I (.inl ⟨kvs, k, e, ey, l⟩) ry h
  · subst ey
    cases (show u = Value.ref b from ry)
    obtain ⟨h1, h2, ys, rel, dd⟩ := keyed_at I gr e hx
    obtain ⟨w', hw, rw'⟩ := RelO.some_of (v := v) (o := (atKey ys (nk t)).map (·.2)) (by rw [l]; exact look_rel (nk t) rel)
    obtain ⟨p, hp, hp2⟩ := Option.map_eq_some_iff.mp hw
    refine wpAny_getItem_heap (room8 hu) (key1_is I gr hk hr) dd hp ?_
    rw [hp2]
    exact h w' _ (I.tok _) rw'
  · cases l
/-- x.get(y, d) -/
theorem zd_get2 {Q : Value → Shared → Prop} (hu : A.units + 65 < cLine) (I : Inv X pins σ H s) (g : DLook (zx X) Sh H a y o) (ry : RelV y u) (rd : RelV d r) (h : ∀ w' s', Inv X pins σ H s' → RelV (o.getD d) w' → Q w' s') :
    wpAny (model X.prog X.w) A (call (.builtin "dict.get") [.ref a, u, r]) Q E s := by
  obtain ⟨gr, ⟨kvs, k, e, ey, l⟩ | ⟨xs, b, t, e, ey, hk, hr, hx, l⟩ | ⟨b, t, e, ey, hk, hr, l⟩⟩ := g
  · exact d_get2 (by omega) I (.inl ⟨kvs, k, e, ey, l⟩) ry rd h
  · subst ey
    cases (show u = Value.ref b from ry)
    obtain ⟨h1, h2, ys, rel, dd⟩ := keyed_at I gr e hx
    refine call_meetsIn PySem.F.slot_dict_get dd.typeIs PySem.F.entry_dict_get (PySem.F.args_dict_get_3 _ _ _) (meetsH_dict_get_default (nestedKind X.prog X.w) a b h1 r) ⟨room8 hu, nk t, ys, key1_is I gr hk hr, dd, h _ _ (I.tok _) ?_⟩
    rw [l]
    exact (look_rel (nk t) rel).getD rd
  · subst ey
    cases (show u = Value.ref b from ry)
    obtain ⟨h1, dd⟩ := empty_at I e
    refine call_meetsIn PySem.F.slot_dict_get dd.typeIs PySem.F.entry_dict_get (PySem.F.args_dict_get_3 _ _ _) (meetsH_dict_get_default (nestedKind X.prog X.w) a b h1 r) ⟨room8 hu, nk t, [], key1_is I gr hk hr, dd, h _ _ (I.tok _) ?_⟩
    rw [l]
    exact rd
end
end Vi

set_option autoImplicit false
set_option Elab.async false
set_option linter.all false
set_option maxRecDepth 100000
/-! VI: subscripts, slices, in. -/
namespace Vi
open PySem PySem.Spec PyProof.Rows L2
section
variable {X : Cx} {c : Cfg} {xp : Xp (zx X)} {e : E} {a b d : Expr} {pos : Pos}
theorem ixn_eq (n : Nat) (i : Int) : ixn n i = ixN n i := rfl
theorem atx_eq {α : Type} (l : List α) (i : Int) : atx l i = atI l i := rfl
theorem RpL.atI {Z : Rw} {Sh : Hp} {vs : List V} {ts : List T} (r : RpL Z Sh vs ts) {i : Int} {t : T} (h : atx ts i = some t) : ∃ v, atI vs i = some v ∧ Rp Z Sh v t := by
  rw [atx_eq] at h
  unfold L2.atI at h ⊢
  rw [r.1]
  obtain ⟨j, h1, h2⟩ := Option.bind_eq_some_iff.mp h
  obtain ⟨v, h3, h4⟩ := r.get h2
  exact ⟨v, by rw [h1]; exact h3, h4⟩
/-! ### what a dict has -/
/-- a dict's value: a shared one, or a list that is the dict's own -/
theorem valV_of {kvs : List (Key × V)} {l : List (T × T)} (k : Key) (hk : kvs.map (fun p => keyT p.1) = l.map (·.1)) :
    (valV kvs k = none ∧ dget l (keyT k) = none) ∨ ∃ (i : Nat) (p : Key × V) (q : T × T), kvs[i]? = some p ∧ l[i]? = some q ∧ valV kvs k = some p.2 ∧ dget l (keyT k) = some q.2 := by
  induction kvs generalizing l with
  | nil =>
    cases l with
    | nil => exact .inl ⟨rfl, rfl⟩
    | cons _ _ => simp at hk
  | cons p kvs ih =>
    cases l with
    | nil => simp at hk
    | cons q l =>
      simp only [List.map_cons, List.cons.injEq] at hk
      have e1 : keq q.1 (keyT k) = decide (p.1 = k) := by rw [← hk.1, keq_keyT]
      by_cases z : p.1 = k
      · refine .inr ⟨0, p, q, rfl, rfl, ?_, ?_⟩
        · simp [valV, z]
        · simp [dget, e1, z]
      · have e2 : valV (p :: kvs) k = valV kvs k := by simp [valV, z]
        have e3 : dget (q :: l) (keyT k) = dget l (keyT k) := by simp [dget, e1, z]
        rcases ih hk.2 with ⟨h1, h2⟩ | ⟨i, p', q', h1, h2, h3, h4⟩
        · exact .inl ⟨e2.trans h1, e3.trans h2⟩
        · exact .inr ⟨i + 1, p', q', h1, h2, e2.trans h3, e3.trans h4⟩
theorem lookK_of {xs : List (NestedKey × Addr × V)} {l : List (T × T)} {k : T} (hk : xs.map (·.1) = l.map (fun q => nk q.1)) (hp : ∀ q ∈ l, kind? q.1 = some true) (h : kind? k = some true) :
    (lookK xs (nk k) = none ∧ dget l k = none) ∨ ∃ (i : Nat) (p : NestedKey × Addr × V) (q : T × T), xs[i]? = some p ∧ l[i]? = some q ∧ lookK xs (nk k) = some p.2.2 ∧ dget l k = some q.2 := by
  induction xs generalizing l with
  | nil =>
    cases l with
    | nil => exact .inl ⟨rfl, rfl⟩
    | cons _ _ => simp at hk
  | cons p xs ih =>
    cases l with
    | nil => simp at hk
    | cons q l =>
      simp only [List.map_cons, List.cons.injEq] at hk
      have e1 : keq q.1 k = decide (p.1 = nk k) := by
        obtain ⟨l1, e1, p1⟩ := key1_tup (hp q List.mem_cons_self)
        obtain ⟨l2, e2, p2⟩ := key1_tup h
        rw [hk.1, e1, e2]
        exact keq_nk 8 8 _ _ (by simpa [isPart] using p1) (by simpa [isPart] using p2)
      by_cases z : p.1 = nk k
      · refine .inr ⟨0, p, q, rfl, rfl, ?_, ?_⟩
        · simp [lookK, z]
        · simp [dget, e1, z]
      · have e2 : lookK (p :: xs) (nk k) = lookK xs (nk k) := by simp [lookK, z]
        have e3 : dget (q :: l) k = dget l k := by simp [dget, e1, z]
        rcases ih hk.2 (fun q hq => hp q (List.mem_cons_of_mem _ hq)) with ⟨h1, h2⟩ | ⟨i, p', q', h1, h2, h3, h4⟩
        · exact .inl ⟨e2.trans h1, e3.trans h2⟩
        · exact .inr ⟨i + 1, p', q', h1, h2, e2.trans h3, e3.trans h4⟩
variable {Z : Rw} {Sh H : Hp} {F : List Addr} {ms : List (Nat × V)} {σ : L2.St} {env : Env} {A B : List Addr}
/-- what one may know of a value within a dict -/
theorem VRep.at' {vs : List V} {ts : List T} (r : VRep Z Sh H vs ts B) {i : Nat} {v : V} {t : T} (h1 : vs[i]? = some v) (h2 : ts[i]? = some t) : Rp Z Sh v (sh1 t) := by
  induction r generalizing i with
  | nil => simp at h1
  | sh h _ ih =>
    cases i with
    | zero =>
      simp at h1 h2; subst h1; subst h2
      cases h with
      | non => exact .non
      | und => exact .und _
      | bl => exact .bl _
      | int => exact .int _
      | str => exact .str _ ‹_›
      | tup a b c => exact .tup a b c
      | lst a b c => exact .lst a b c
      | dic0 a b c d => exact .dic0 a b c d
      | dic1 a b c d e f => exact .dic1 a b c d e f
    | succ i => exact ih (by simpa using h1) (by simpa using h2)
  | own h n q _ ih =>
    cases i with
    | zero => simp at h1 h2; subst h1; subst h2; exact .und _
    | succ i => exact ih (by simpa using h1) (by simpa using h2)
theorem keyT_of0 {k : T} {v : V} (h : kind? k = some false) (r : Rp Z Sh v k) : ∃ key, keyT key = k ∧ v = kV key := by
  obtain ⟨key, e, hv⟩ := kind0_key h
  exact ⟨key, e, hv r⟩
theorem kindD_some {l : List (T × T)} {k : T} (h : kindD l k = true) : ∃ b, kind? k = some b ∧ (l = [] ∨ ∃ p r, l = p :: r ∧ kind? p.1 = some b) := by
  unfold kindD at h
  split at h
  · cases h
  · rename_i b hb
    refine ⟨b, hb, ?_⟩
    cases l with
    | nil => exact .inl rfl
    | cons p r => exact .inr ⟨p, r, rfl, by simpa using h⟩
theorem keyT_kind (k : Key) : kind? (keyT k) = some false := by cases k <;> rfl
theorem ORepKey {v : V} {t : T} {A : List Addr} {b : Bool} (r : Rep Z Sh H v t A) (h : kind? t = some b) : Rp Z Sh v t := by
  refine (r.shared ?_).1
  cases t <;> first | rfl | (cases h; done)
/-- a look into a dict -/
theorem dlook {x y : V} {o : Bool} {l : List (T × T)} {k : T} (s : SR Z Sh F ms σ H env) (rx : Rep Z Sh H x (.dic o l) A) (ry : Rep Z Sh H y k B) (hk : kindD l k = true) :
    ∃ a ov, x = .ref a ∧ DLook Z Sh H a y ov ∧ ((ov = none ∧ dget l k = none) ∨ ∃ v t, ov = some v ∧ dget l k = some t ∧ Rp Z Sh v (sh1 t)) := by
  have g : Grow Sh H := s.sub
  obtain ⟨b, hb, hl⟩ := kindD_some hk
  have ry := ORepKey ry hb
  -- the two kinds of dict, by the heap's part that shows them
  have main0 : ∀ (a : Addr) (kvs : List (Key × V)), Rd H a (.dK kvs) → kvs.map (fun p => keyT p.1) = l.map (·.1) → (∀ (i : Nat) (p : Key × V) (q : T × T), kvs[i]? = some p → l[i]? = some q → Rp Z Sh p.2 (sh1 q.2)) →
      ∃ ov, DLook Z Sh H a y ov ∧ ((ov = none ∧ dget l k = none) ∨ ∃ v t, ov = some v ∧ dget l k = some t ∧ Rp Z Sh v (sh1 t)) := by
    intro a kvs hr hkk hs
    cases b with
    | false =>
      obtain ⟨key, e, hv⟩ := keyT_of0 hb ry
      subst e
      refine ⟨valV kvs key, ⟨g, .inl ⟨kvs, key, hr, hv, rfl⟩⟩, ?_⟩
      rcases valV_of key hkk with ⟨h1, h2⟩ | ⟨i, p, q, h1, h2, h3, h4⟩
      · exact .inl ⟨h1, h2⟩
      · exact .inr ⟨p.2, q.2, h3, h4, hs i p q h1 h2⟩
    | true =>
      have hn : l = [] := by
        rcases hl with hl | ⟨p, r, rfl, hp⟩
        · exact hl
        · cases kvs with
          | nil => simp at hkk
          | cons q kvs =>
            simp only [List.map_cons, List.cons.injEq] at hkk
            rw [← hkk.1, keyT_kind] at hp; cases hp
      subst hn
      have : kvs = [] := by cases kvs with
        | nil => rfl
        | cons _ _ => simp at hkk
      subst this
      obtain ⟨b', e⟩ := key1_ref hb ry
      subst e
      exact ⟨none, ⟨g, .inr (.inr ⟨b', k, hr, rfl, hb, ry, rfl⟩)⟩, .inl ⟨rfl, rfl⟩⟩
  have main1 : ∀ (a : Addr) (xs : List (NestedKey × Addr × V)), Rd H a (keyedO Z.P Z.w a xs) → xs ≠ [] ∨ b = true → xs.map (·.1) = l.map (fun q => nk q.1) → (∀ q ∈ l, kind? q.1 = some true) →
      (∀ (i : Nat) (p : NestedKey × Addr × V) (q : T × T), xs[i]? = some p → l[i]? = some q → Rp Z Sh (.ref p.2.1) q.1) →
      (∀ (i : Nat) (p : NestedKey × Addr × V) (q : T × T), xs[i]? = some p → l[i]? = some q → Rp Z Sh p.2.2 (sh1 q.2)) →
      ∃ ov, DLook Z Sh H a y ov ∧ ((ov = none ∧ dget l k = none) ∨ ∃ v t, ov = some v ∧ dget l k = some t ∧ Rp Z Sh v (sh1 t)) := by
    intro a xs hr hne hkk hp hr2 hs
    have hb1 : b = true := by
      rcases hne with hne | hne
      · rcases hl with rfl | ⟨p, r, rfl, hq⟩
        · cases xs with
          | nil => exact absurd rfl hne
          | cons _ _ => simp at hkk
        · have := hp p List.mem_cons_self
          rw [hq] at this; cases this; rfl
      · exact hne
    subst hb1
    obtain ⟨b', e⟩ := key1_ref hb ry
    subst e
    refine ⟨lookK xs (nk k), ⟨g, .inr (.inl ⟨xs, b', k, hr, rfl, hb, ry, fun p hpx => ?_, rfl⟩)⟩, ?_⟩
    · obtain ⟨i, hi⟩ := List.getElem?_of_mem hpx
      have hlen : xs.length = l.length := by have := congrArg List.length hkk; simpa using this
      obtain ⟨hi', _⟩ := List.getElem?_eq_some_iff.mp hi
      have hq : l[i]? = some l[i] := List.getElem?_eq_getElem (by omega)
      have e : nk (l[i]).1 = p.1 := by
        have := congrArg (fun z => z[i]?) hkk
        simp only [List.getElem?_map, hi, hq] at this
        exact (Option.some.inj this).symm
      exact ⟨_, hp _ (List.mem_of_getElem? hq), e, hr2 i p _ hi hq⟩
    · rcases lookK_of hkk hp hb with ⟨h1, h2⟩ | ⟨i, p, q, h1, h2, h3, h4⟩
      · exact .inl ⟨h1, h2⟩
      · exact .inr ⟨p.2.2, q.2, h3, h4, hs i p q h1 h2⟩
  have shw : ∀ {v : V} {t : T}, Rp Z Sh v t → Rp Z Sh v (sh1 t) := fun {v t} h => by
    have := VRep.at' (H := H) (B := []) (VRep.ofRpL (RpL.nil.cons h)) (i := 0) rfl rfl
    exact this
  cases rx with
  | sh r =>
    cases r with
    | dic0 h hlen hkk hs =>
      obtain ⟨ov, h1, h2⟩ := main0 _ _ (.inr ⟨_, s.sub _ _ h⟩) hkk fun i p q a b => shw (hs i p q a b)
      exact ⟨_, ov, rfl, h1, h2⟩
    | @dic1 a od xs l' h hlen hkk hp hr hs =>
      obtain ⟨ov, h1, h2⟩ := main1 _ _ (.inr ⟨_, s.sub _ _ h⟩) (.inl fun z => hp.1 (by subst z; exact (List.length_eq_zero_iff.mp hlen.symm))) hkk hp.2 hr fun i p q a b => shw (hs i p q a b)
      exact ⟨_, ov, rfl, h1, h2⟩
  | dic0 h n hkk hs =>
    obtain ⟨ov, h1, h2⟩ := main0 _ _ (.inl h) hkk fun i p q a b => hs.at' (by rw [List.getElem?_map, a]; rfl) (by rw [List.getElem?_map, b]; rfl)
    exact ⟨_, ov, rfl, h1, h2⟩
  | @dic1 a xs l' B' h n hkk hp hr hs =>
    obtain ⟨ov, h1, h2⟩ := main1 _ _ (.inl h) (.inl fun z => hp.1 (by subst z; simpa using hkk)) hkk hp.2 hr fun i p q a b => hs.at' (by rw [List.getElem?_map, a]; rfl) (by rw [List.getElem?_map, b]; rfl)
    exact ⟨_, ov, rfl, h1, h2⟩
end
end Vi

set_option autoImplicit false
set_option Elab.async false
set_option linter.all false
set_option maxRecDepth 100000
/-! VI: subscripts, slices, in. -/
namespace Vi
open PySem PySem.Spec PyProof.Rows L2
section
variable {X : Cx} {c : Cfg} {xp : Xp (zx X)} {e : E} {a b d : Expr} {pos : Pos}
def rIxZ (Z : Rw) : R2 := fun x y H Q => ∃ Sh a v, x = .ref a ∧ DLook Z Sh H a y (some v) ∧ Q v H
theorem DLook.typeIs {pins : List (Addr × Obj)} {s : Shared} {σ : L2.St} {Sh H : Hp} {a : Addr} {y : V} {o : Option V} (I : Inv X pins σ H s) (g : DLook (zx X) Sh H a y o) : s.TypeIs (.ref a) "dict" := by
  obtain ⟨gr, ⟨kvs, k, e, ey, l⟩ | ⟨xs, b, t, e, ey, hk, hr, hx, l⟩ | ⟨b, t, e, ey, hk, hr, l⟩⟩ := g
  · obtain ⟨_, _, vs, r, dd⟩ := dk_rd I.hok e
    exact dd.typeIs
  · obtain ⟨h1, h2, ys, rel, dd⟩ := keyed_at I gr e hx
    exact dd.typeIs
  · obtain ⟨h1, dd⟩ := empty_at I e
    exact dd.typeIs
theorem ix_D (hu : X.A.units + 65 < cLine) : IxR X (rIxZ (zx X)) := fun value slice pins s σ H x y v u Q I rx ry ⟨Sh, a, w, e, g, q⟩ hs => by
  subst e
  cases (show v = Value.ref a from rx)
  exact tail_any (g.typeIs I) slot_dict_getitem.lookup (zd_getItem hu I g ry fun w' s' I' rw => ⟨w, H, I', rw, q⟩) hs
def rIxA (Z : Rw) : R2 := fun x y H Q => rIx Z.K x y H Q ∨ rIxZ Z x y H Q
theorem ix_A (hu : X.A.units + 65 < cLine) : IxR X (rIxA (zx X)) := IxR.or ix_seq (ix_D hu)
theorem mem_of_atx {α : Type} {l : List α} {i : Int} {x : α} (h : atx l i = some x) : x ∈ l := by
  obtain ⟨j, _, h2⟩ := Option.bind_eq_some_iff.mp h
  exact List.mem_of_getElem? h2
theorem okS_one {ch : Nat} (h : ch < 1114112) : okS [ch] := ⟨by show 1 ≤ 16777216; omega, fun x hx => by simp at hx; omega⟩
theorem ok_idx {Z : Rw} : Ok2 Z (rIxA Z) idxT := fun Sh F ms σ H env x y ta tb A B t Q s rx ry hf fin => by
  have hl := line_eq
  cases ta with
  | tup l =>
    cases tb with
    | int i =>
      cases ry.intI
      obtain ⟨p, vs, rfl, q, r, _⟩ := rx.tupI s
      obtain ⟨v, h1, h2⟩ := r.atI hf
      exact .inl (.inr (.inl ⟨p, vs, i, v, rfl, rfl, q, h1, fin.sh s h2⟩))
    | _ => cases hf
  | lst o l =>
    cases tb with
    | int i =>
      cases ry.intI
      obtain ⟨p, vs, rfl, q, r⟩ := rx.lstI s
      obtain ⟨v, h1, h2⟩ := r.atI hf
      exact .inl (.inl ⟨p, vs, i, v, rfl, rfl, Rd.sq q, h1, fin.sh s h2⟩)
    | _ => cases hf
  | str z =>
    cases tb with
    | int i =>
      cases ry.intI
      obtain ⟨rfl, o⟩ := rx.strI
      obtain ⟨ch, h1, rfl⟩ := Option.map_eq_some_iff.mp hf
      refine .inl (.inr (.inr ⟨_, i, ch, rfl, rfl, by rw [sOf_length]; have := o.1; omega, by rw [sOf_cps]; exact h1, fin.sh s ?_⟩))
      exact .str [ch] (okS_one (o.2 ch (mem_of_atx h1)))
    | _ => cases hf
  | dic o l =>
    have hf : (if kindD l tb then (dget l tb).map sh1 else none) = some t := by cases tb <;> exact hf
    by_cases hk : kindD l tb = true
    · rw [if_pos hk] at hf
      obtain ⟨u, hu, rfl⟩ := Option.map_eq_some_iff.mp hf
      obtain ⟨a, ov, rfl, g, h | ⟨v, t, rfl, h2, h3⟩⟩ := dlook s rx ry hk
      · rw [h.2] at hu; cases hu
      · rw [h2] at hu; cases hu
        exact .inr ⟨Sh, a, v, rfl, g, fin.sh s h3⟩
    · rw [if_neg hk] at hf; cases hf
  | _ => cases tb <;> cases hf
theorem se_idx {ea eb : E} (hu : X.A.units + 65 < cLine) (ha : SE X c xp ea a) (hb : SE X c xp eb b) (hs : PlainIx b) : SE X c xp (.idx ea eb) (.Subscript a b pos) :=
  .plain rfl (peI (pe_ix (ix_A hu) ha.o hb.o hs) (bin_imp ok_idx)) (fun _ => rfl)

/-! ### slices -/
def rSlZ (K : PySem.W.Frag) : V → Option Int → Option Int → Hp → VK → Prop := fun x lo hi H Q => rSlS x lo hi H Q ∨ (rSlL K x lo hi H Q ∨ rSlA K x lo hi H Q)
theorem sl_Z : SlR X (rSlZ X.K) := SlR.or sl_str (SlR.or sl_list sl_tupA)
/-- a part of a slice -/
def rOp (Z : Rw) (xp : Xp Z) (m : M (Option Int)) : TO := fun σ H Q => ∃ Sh F ms env, SR Z Sh F ms σ H env ∧
  Out (m env) (fun o env' => ∀ H' Sh', SR Z Sh' F ms σ H' env' → Aft Sh F H Sh' H' → Q o H') (xp.p Sh F ms H)
theorem poI {e : Option Expr} {t t' : TO} (h : PO X e t) (w : ∀ σ H Q, t' σ H Q → t σ H Q) : PO X e t' := ⟨fun pins s σ H Q I q => h.run pins s σ H Q I (w σ H Q q)⟩
theorem so_non : PO X none (rOp (zx X) xp (evo c .non)) := poI po_none fun σ H Q ⟨Sh, F, ms, env, sr, out⟩ => (show Q none H from (show Out (R.ok none env) _ _ from out) H Sh sr Aft.refl)
theorem so_som {ea : E} (h : SE X c xp ea a) : PO X (some a) (rOp (zx X) xp (evo c (.som ea))) := poI (po_some (pe_strong h)) fun σ H Q ⟨Sh, F, ms, env, sr, out⟩ => by
  have out : Out ((strong (isRd ea) (ev c ea) env).bind fun t e => match t with
    | .int i => R.ok (some i) e
    | _ => .no) _ _ := out
  refine ⟨Sh, F, ms, env, sr, out.bind.imp (fun t e1 h1 v H1 Sh1 A s1 r1 a1 => ?_) fun _ _ _ x => x⟩
  cases t with
  | int i => exact ⟨i, r1.intI, (show Out (R.ok (some i) e1) _ _ from h1) H1 Sh1 s1.less a1⟩
  | _ => exact h1.elim
theorem six_eq (n d : Nat) (o : Option Int) : six n d o = HT.sIx n d o := by
  cases o with
  | none => rfl
  | some i =>
    unfold six HT.sIx
    by_cases h : i < 0
    · simp only [h, if_true]; omega
    · simp only [h, if_false]; omega
theorem cut_eq {α : Type} (l : List α) (lo hi : Option Int) : cut l lo hi = (l.drop (HT.sIx l.length 0 lo)).take (HT.sIx l.length l.length hi - HT.sIx l.length 0 lo) := by
  unfold cut
  rw [six_eq, six_eq]
theorem RpL.cut {Z : Rw} {Sh : Hp} {vs : List V} {ts : List T} (r : RpL Z Sh vs ts) (lo hi : Option Int) : RpL Z Sh (cutV vs lo hi) (cut ts lo hi) := by
  rw [cut_eq, ← r.1]
  exact (r.drop _).take _
theorem cut_all {α : Type} (l : List α) (lo hi : Option Int) (h : HT.sIx l.length 0 lo = 0 ∧ HT.sIx l.length l.length hi = l.length) : cut l lo hi = l := by
  rw [cut_eq, h.1, h.2]
  simp
theorem okS_cut {s : List Nat} (h : okS s) (lo hi : Option Int) : okS (cut s lo hi) := ⟨by
  rw [cut_eq, List.length_take, List.length_drop]; have := h.1; omega, fun x hx => h.2 x (List.mem_of_mem_drop (List.mem_of_mem_take hx))⟩
theorem sl_ok {Z : Rw} {Sh : Hp} {F : List Addr} {ms : List (Nat × V)} {σ : L2.St} {H : Hp} {env : Env} {x : V} {ta t : T} {A : List Addr} {lo hi : Option Int} {Q : VK} (s : SR Z Sh F ms σ H env) (rx : Rep Z Sh H x ta A) (hf : sliT ta lo hi = some t) (fin : Fin Z Sh F ms σ H env t Q) : rSlZ Z.K x lo hi H Q := by
  have hl := line_eq
  cases ta with
  | str z =>
    obtain ⟨rfl, o⟩ := rx.strI
    cases hf
    refine .inl ⟨_, rfl, by rw [sOf_length]; have := o.1; omega, ?_⟩
    have e : cutS (sOf z) lo hi = sOf (cut z lo hi) := by
      unfold cutS
      rw [cut_eq]
      have e1 : (sOf z).length = z.length := sOf_length z
      have e2 : (sOf z).cps.toList = z := sOf_cps z
      rw [e1, e2]
      rfl
    rw [e]
    exact fin.sh s (.str _ (okS_cut o lo hi))
  | tup l =>
    obtain ⟨p, vs, rfl, q, r, q2⟩ := rx.tupI s
    cases hf
    refine .inr (.inr ⟨p, vs, rfl, q, fun hz => ?_, fun _ p hp => fin.newT s (r.cut lo hi) hp⟩)
    rw [r.1] at hz
    have e := cut_all l lo hi hz
    refine fin.sh s ?_
    rw [e]
    exact .tup q2 r.1 r.2
  | lst o l =>
    obtain ⟨p, vs, rfl, q, r⟩ := rx.lstI s
    cases hf
    exact .inr (.inl ⟨p, vs, rfl, Rd.sq q, fun p hp => fin.newL s (r.cut lo hi) hp⟩)
  | _ => cases hf
theorem se_sli {ea : E} {lo hi : Eo} {l u : Option Expr} {p2 : Pos} (ha : SE X c xp ea a) (hl : PO X l (rOp (zx X) xp (evo c lo))) (hh : PO X u (rOp (zx X) xp (evo c hi))) : SE X c xp (.sli ea lo hi) (.Subscript a (.Slice l u none p2) pos) := by
  refine .plain rfl (peI (pe_slice sl_Z ha.o hl hh) fun σ H Q ⟨Sh, F, ms, env, sr, out⟩ => ?_) (fun _ => rfl)
  have out : Out ((opd (isRd ea) (ev c ea) env).bind fun o e => (evo c lo e).bind fun l e => (evo c hi e).bind fun h e => fin1 o (fun t => sliT t l h) e) _ _ := out
  refine ⟨Sh, F, ms, env, sr, out.bind.imp (fun o e1 h1 v1 H1 Sh1 A s1 r1 a1 => ?_) fun _ _ _ x => x⟩
  refine ⟨Sh1, A ++ F, ms, e1, s1, h1.bind.imp (fun ol e2 h2 H2 Sh2 s2 a2 => ?_) fun _ _ _ x => xp.mono A a1 x⟩
  have a12 : Aft Sh F H Sh2 H2 := a1.trans (a2.less fun x hx => List.mem_append_right _ hx)
  refine ⟨Sh2, A ++ F, ms, e2, s2, h2.bind.imp (fun oh e3 h3 H3 Sh3 s3 a3 => ?_) fun _ _ _ x => xp.mono A a12 x⟩
  obtain ⟨ta, t, g1, hf, fin⟩ := out_fin1 h3
  have q1 := r1.stay (a2.trans a3) (fun x hx => List.mem_append_left _ hx) (fun x hx => (s3.fr.2 x hx).1)
  obtain ⟨A', w⟩ := q1.fin s3.less g1
  exact sl_ok s3.less w hf fun v H' Sh' C s4 r4 a4 => fin v H' Sh' C s4 r4 ((a12.trans (a3.less fun x hx => List.mem_append_right _ hx)).trans a4)
end
end Vi

set_option autoImplicit false
set_option Elab.async false
set_option linter.all false
set_option maxRecDepth 100000
/-! VI: in. -/
namespace Vi
open PySem PySem.Spec PyProof.Rows L2
theorem preS_iff (x s : List Nat) : preS x s = (s.take x.length == x) := by
  induction x generalizing s with
  | nil => cases s <;> simp [preS]
  | cons a r ih =>
    cases s with
    | nil => simp [preS]
    | cons b q =>
      rw [preS, ih, List.length_cons, List.take_succ_cons]
      rw [Bool.eq_iff_iff]
      simp only [Bool.and_eq_true, beq_iff_eq, List.cons.injEq]
      constructor
      · rintro ⟨h1, h2⟩; exact ⟨h1.symm, h2⟩
      · rintro ⟨h1, h2⟩; exact ⟨h1.symm, h2⟩
theorem subS_iff (x s : List Nat) : subS x s = true ↔ ∃ i, i + x.length ≤ s.length ∧ (s.drop i).take x.length = x := by
  induction s with
  | nil =>
    cases x with
    | nil => simp [subS]
    | cons a r => simp [subS]
  | cons b q ih =>
    rw [subS, Bool.or_eq_true, ih, preS_iff, beq_iff_eq]
    constructor
    · rintro (h | ⟨i, h1, h2⟩)
      · refine ⟨0, ?_, h⟩
        have := congrArg List.length h
        rw [List.length_take] at this
        omega
      · exact ⟨i + 1, by simp; omega, by simpa using h2⟩
    · rintro ⟨i, h1, h2⟩
      cases i with
      | zero => exact .inl h2
      | succ i => exact .inr ⟨i, by simp at h1; omega, by simpa using h2⟩
theorem occ_sub (x s : List Nat) : (!(Builtin.Str.occurrences (sOf s) (sOf x) 0 (sOf s).length 1).isEmpty) = subS x s := by
  rw [Bool.eq_iff_iff, StrLaws.found_iff, subS_iff]
  constructor
  · rintro ⟨i, h1, h2⟩
    rw [StrLaws.subAt_eq, sOf_cps, sOf_cps, sOf_length] at h2
    rw [sOf_length, sOf_length] at h1
    exact ⟨i, h1, by simpa using h2⟩
  · rintro ⟨i, h1, h2⟩
    refine ⟨i, by rw [sOf_length, sOf_length]; exact h1, ?_⟩
    rw [StrLaws.subAt_eq, sOf_cps, sOf_cps, sOf_length, h2]
    simp
theorem subS_one (c : Nat) (s : List Nat) : subS [c] s = s.contains c := by
  induction s with
  | nil => rfl
  | cons b q ih =>
    rw [subS, ih, Bool.eq_iff_iff]
    simp [preS]
section
variable {X : Cx} {c : Cfg} {xp : Xp (zx X)} {e : E} {a b d : Expr} {pos : Pos}
theorem flatV_of {Z : Rw} {Sh : Hp} {v : V} {t : T} (r : Rp Z Sh v t) (h : flat t = true) : flatV v = true := by
  cases r <;> first | rfl | (cases h; done)
theorem eqV_of {Z : Rw} {Sh : Hp} {v w : V} {t u : T} (r : Rp Z Sh v t) (q : Rp Z Sh w u) (h : flat t = true) (h2 : flat u = true) : eqV v w = eqb t u := by
  cases r <;> first | (cases h; done) | (cases q <;> first | (cases h2; done) | rfl | (simp only [L2.eqV, eqb]; exact sOf_beq _ _) | (simp [L2.eqV, eqb]))
theorem inV_of {Z : Rw} {Sh : Hp} {v : V} {t : T} (r : Rp Z Sh v t) (h : flat t = true) : ∀ {vs : List V} {l : List T}, RpL Z Sh vs l → l.all flat = true → vs.all flatV = true ∧ inV v vs = l.any fun y => eqb y t
  | [], [], _, _ => ⟨rfl, rfl⟩
  | [], _ :: _, q, _ => by have := q.1; simp at this
  | _ :: _, [], q, _ => by have := q.1; simp at this
  | w :: vs, u :: l, q, hl => by
    rw [List.all_cons, Bool.and_eq_true] at hl
    obtain ⟨h1, h2⟩ := inV_of r h q.tail hl.2
    refine ⟨by rw [List.all_cons, h1, flatV_of q.head hl.1]; rfl, ?_⟩
    unfold L2.inV at h2 ⊢
    rw [List.any_cons, List.any_cons, h2, eqV_of q.head r hl.1 h]
theorem dats_any {n m : Nat} {t : T} (h : dat n t = true) : ∀ {l : List T}, dats m l = true → ((pds l).any fun z => z.eqv (pd t)) = l.any fun y => eqb y t
  | [], _ => rfl
  | a :: l, hl => by
    have h' : dat m a = true ∧ dats m l = true := by simpa [dats] using hl
    show (PyData.eqv (pd a) (pd t) || (pds l).any _) = _
    rw [dats_any h h'.2, eqv_pd m n a t h'.1 h]
    rfl
/-- x in y, x not in y -/
def rInZ (Z : Rw) (k : Bool) : R2 := fun x y H Q => (∃ i j, x = .str (sOf i) ∧ y = .str (sOf j) ∧ Q (.bl (subS i j == k)) H) ∨ (rIn Z.K (!k) x y H Q ∨
  ((if k then rInD Z.K x y H Q else rNotInD Z.K x y H Q) ∨ ∃ Sh a o, y = .ref a ∧ DLook Z Sh H a x o ∧ Q (.bl (o.isSome == k)) H))
theorem op_inZ (hu : X.A.units + 65 < cLine) : OpR X (compareOp .In) (rInZ (zx X) true) := OpR.or (fun pins s σ H x y v u Q I rx ry ⟨i, j, e1, e2, q⟩ => op_in_str pins s σ H x y v u Q I rx ry ⟨_, _, e1, e2, by rw [occ_sub]; simpa using q⟩)
  (OpR.or op_in_seq (OpR.or (op_inD hu) (fun pins s σ H x y v u Q I rx ry ⟨Sh, a, o, e, g, q⟩ => by
    subst e
    cases (show u = Value.ref a from ry)
    exact zd_in hu I g rx fun s' I' => ⟨.bl o.isSome, H, I', rfl, by simpa using q⟩)))
theorem op_notInZ (hu : X.A.units + 65 < cLine) : OpR X (compareOp .NotIn) (rInZ (zx X) false) := OpR.or (fun pins s σ H x y v u Q I rx ry ⟨i, j, e1, e2, q⟩ => op_notIn_str pins s σ H x y v u Q I rx ry ⟨_, _, e1, e2, by rw [occ_sub]; cases h : subS i j <;> simpa [h] using q⟩)
  (OpR.or op_notIn_seq (OpR.or (op_notInD hu) (fun pins s σ H x y v u Q I rx ry ⟨Sh, a, o, e, g, q⟩ => by
    subst e
    cases (show u = Value.ref a from ry)
    exact zd_notIn hu I g rx fun s' I' => ⟨.bl (!o.isSome), H, I', rfl, by cases h : o.isSome <;> simpa [h] using q⟩)))
theorem in_ok {Z : Rw} (k : Bool) {Sh : Hp} {F : List Addr} {ms : List (Nat × V)} {σ : L2.St} {H : Hp} {env : Env} {x y : V} {ta tb : T} {A B : List Addr} {r : Bool} {Q : VK}
    (s : SR Z Sh F ms σ H env) (rx : Rep Z Sh H x ta A) (ry : Rep Z Sh H y tb B) (hf : inT ta tb = some r) (fin : Q (.bl (r == k)) H) : rInZ Z k x y H Q := by
  have seqs : ∀ l p vs, y = .ref p → (SqL Z.K H p vs ∨ SqT Z.K H p vs) → RpL Z Sh vs l → flat ta = true → l.all flat = true → r = l.any (fun z => eqb z ta) → rInZ Z k x y H Q := by
    intro l p vs e q rl h1 h2 h3
    have hx : Rp Z Sh x ta := (rx.shared (by cases ta <;> first | rfl | (cases h1; done))).1
    obtain ⟨g1, g2⟩ := inV_of hx h1 rl h2
    refine .inr (.inl ⟨p, vs, e, q, flatV_of hx h1, g1, ?_⟩)
    rw [g2, ← h3]
    cases k <;> cases r <;> simpa using fin
  unfold inT at hf
  split at hf
  · rename_i ch z
    cases hf
    obtain ⟨rfl, _⟩ := rx.strI
    obtain ⟨rfl, _⟩ := ry.strI
    exact .inl ⟨_, _, rfl, rfl, by rw [subS_one]; exact fin⟩
  · rename_i z w _
    cases hf
    obtain ⟨rfl, _⟩ := rx.strI
    obtain ⟨rfl, _⟩ := ry.strI
    exact .inl ⟨_, _, rfl, rfl, fin⟩
  · rename_i l
    split at hf
    · rename_i h
      rw [Bool.and_eq_true] at h
      cases hf
      obtain ⟨p, vs, e, q, rl, _⟩ := ry.tupI s
      exact seqs l p vs e (.inr q) rl h.1 h.2 rfl
    · cases hf
  · rename_i o l
    split at hf
    · rename_i h
      rw [Bool.and_eq_true] at h
      cases hf
      obtain ⟨p, vs, rfl, q, rl⟩ := ry.lstI s
      have d1 := dpO_of s (n := 59) h.1 rx
      have d2 : Dp Z.K H (.ref p) (.list (pds l)) := .lst q (dps_of s 60 l vs h.2 rl)
      have s1 := shaped_of (n := 59) h.1 rx (by omega)
      have s2 : SeqAt.shaped (PyData.list (pds l)) = true := shaped_of (n := 60) (t := .lst o l) (by simpa [dat] using h.2) ry (by omega)
      refine .inr (.inr (.inl ?_))
      cases k with
      | true => exact ⟨_, _, d1, d2, s1, s2, by rw [dats_any h.1 h.2]; simpa using fin⟩
      | false => exact ⟨_, _, d1, d2, s1, s2, by rw [dats_any h.1 h.2]; cases h9 : (l.any fun y => eqb y ta) <;> simpa [h9] using fin⟩
    · cases hf
  · rename_i o l
    split at hf
    · rename_i h
      cases hf
      obtain ⟨a, ov, rfl, g, h2⟩ := dlook s ry rx h
      refine .inr (.inr (.inr ⟨Sh, a, ov, rfl, g, ?_⟩))
      rcases h2 with ⟨rfl, h2⟩ | ⟨v, t, rfl, h2, _⟩ <;> (rw [h2] at fin; exact fin)
    · cases hf
  · cases hf
theorem ok_inn {Z : Rw} : Ok2 Z (rInZ Z true) (fun x y => (cmpT .inn x y).map .bl) := fun Sh F ms σ H env x y ta tb A B t Q s rx ry hf fin => by
  obtain ⟨r, h1, rfl⟩ := Option.map_eq_some_iff.mp hf
  have h1 : inT ta tb = some r := by cases ta <;> cases tb <;> exact h1
  exact in_ok true s rx ry h1 (by simpa using fin.sh s (.bl r))
theorem ok_nin {Z : Rw} : Ok2 Z (rInZ Z false) (fun x y => (cmpT .nin x y).map .bl) := fun Sh F ms σ H env x y ta tb A B t Q s rx ry hf fin => by
  obtain ⟨r, h1, rfl⟩ := Option.map_eq_some_iff.mp hf
  have h1 : (inT ta tb).map (!·) = some r := by cases ta <;> cases tb <;> exact h1
  obtain ⟨r', h2, rfl⟩ := Option.map_eq_some_iff.mp h1
  exact in_ok false s rx ry h2 (by have := fin.sh s (.bl (!r')); cases r' <;> simpa using this)
end
end Vi

set_option autoImplicit false
set_option Elab.async false
set_option linter.all false
set_option maxRecDepth 100000
/-! VI: built-ins. -/
namespace Vi
open PySem PySem.Spec PyProof.Rows L2
section
variable {X : Cx} {c : Cfg} {xp : Xp (zx X)} {e : E} {a b d : Expr} {pos : Pos}
theorem rO_mono {Z : Rw} {xp : Xp Z} {m : M O} {σ : L2.St} {H : Hp} {Q Q' : VK} (h : rO Z xp m σ H Q) (w : ∀ v H, Q v H → Q' v H) : rO Z xp m σ H Q' := by
  obtain ⟨Sh, F, ms, env, sr, out⟩ := h
  exact ⟨Sh, F, ms, env, sr, out.imp (fun o e q v H' Sh' A s r a => w _ _ (q v H' Sh' A s r a)) fun _ _ _ x => x⟩
theorem CallR.imp {f : Value} {r r' : List V → Hp → VK → Prop} (h : CallR X f r) (w : ∀ xs H Q, r' xs H Q → r xs H Q) : CallR X f r' := fun pins s σ H xs us Q I rx q => h pins s σ H xs us Q I rx (w xs H Q q)
def one (r : V → Hp → VK → Prop) : List V → Hp → VK → Prop := fun xs H Q => ∃ x, xs = [x] ∧ r x H Q
theorem se_call1 {f : B1} {ea : E} {x : Str} {p : Pos} {r : V → Hp → VK → Prop} (hpe : ∀ {t : TA}, PA X [a] t → PE X (.Call (.Name x p) [a] [] pos) (tCB (one r) t)) (ok : Ok1 (zx X) r (b1T f)) (ha : SE X c xp ea a) (hs : notStar a = true) :
    SE X c xp (.b1 f ea) (.Call (.Name x p) [a] [] pos) :=
  .plain rfl (peI (hpe (pa_cons ha.o pa_nil (star_of hs))) fun σ H Q h => rO_mono (un_imp ok σ H Q h) fun v H q => ⟨v, rfl, q⟩) (fun _ => rfl)
/-- a built-in function's name -/
structure Bf (X : Cx) (x : Str) (id : String) : Prop where
  hg : Gl X x
  hm : X.mg x = none
  hv : bootBuiltins x = some (.builtin id)
  h1 : x ≠ Str.ofString "__name__"
  h2 : (x == Str.ofString "__debug__") = false
structure Bt (X : Cx) (x : Str) (T : String) : Prop where
  hg : Gl X x
  hm : X.mg x = none
  hv : bootBuiltins x = some (.type T)
  h1 : x ≠ Str.ofString "__name__"
  h2 : (x == Str.ofString "__debug__") = false
theorem bf_call {x : Str} {id : String} {p : Pos} {r : List V → Hp → VK → Prop} (B : Bf X x id) (hs : notStar a = true) (h : CallR X (.builtin id) r) {t : TA} (ha : PA X [a] t) : PE X (.Call (.Name x p) [a] [] pos) (tCB r t) :=
  pe_callB h B.hg B.hm B.hv ha B.h1 B.h2 (star_of hs) rfl
theorem bt_call {x : Str} {T : String} {p : Pos} {r : List V → Hp → VK → Prop} (B : Bt X x T) (hs : notStar a = true) (h : CallR X (.type T) r) {t : TA} (ha : PA X [a] t) : PE X (.Call (.Name x p) [a] [] pos) (tCB r t) :=
  pe_callTy h B.hg B.hm B.hv ha B.h1 B.h2 (star_of hs) rfl
variable {Z : Rw} {Sh H : Hp} {F : List Addr} {ms : List (Nat × V)} {σ : L2.St} {env : Env} {A B : List Addr}
/-! ### len -/
def rLen (K : PySem.W.Frag) : V → Hp → VK → Prop := fun x H Q => ∃ n, LenV K x H n ∧ Q (.int n) H
theorem cr_len : CallR X (.builtin "len") (one (rLen X.K)) := CallR.imp call_len fun xs H Q ⟨x, e, n, h1, h2⟩ => ⟨x, n, e, h1, h2⟩
theorem ok_len : Ok1 Z (rLen Z.K) (b1T .len) := fun Sh F ms σ H env x ta A t Q s rx hf fin => by
  have hl := line_eq
  cases ta with
  | str z =>
    obtain ⟨rfl, o⟩ := rx.strI
    have hf : (if z.length ≤ line then some (T.int z.length) else none) = some t := hf
    rw [if_pos o.1] at hf
    cases hf
    exact ⟨z.length, ⟨by rw [sOf_length]; have := o.1; omega, (sOf_length z).symm⟩, fin.sh s (.int _)⟩
  | tup l =>
    obtain ⟨p, vs, rfl, q, r, _⟩ := rx.tupI s
    cases hf
    exact ⟨l.length, .inr ⟨vs, q, r.1.symm⟩, fin.sh s (.int _)⟩
  | lst o l =>
    obtain ⟨p, vs, rfl, q, r⟩ := rx.lstI s
    cases hf
    exact ⟨l.length, .inl ⟨vs, Rd.sq q, r.1.symm⟩, fin.sh s (.int _)⟩
  | _ => cases hf
/-! ### int, abs, bool -/
def rInt1 : V → Hp → VK → Prop := fun x H Q => (∃ i, x = .int i ∧ Q (.int i) H) ∨ ∃ k, x = .bl k ∧ Q (.int (if k then 1 else 0)) H
theorem cr_int : CallR X (.type "int") (one rInt1) := CallR.imp call_int1 fun xs H Q ⟨x, e, h⟩ => by
  subst e
  rcases h with ⟨i, rfl, h⟩ | ⟨k, rfl, h⟩
  · exact .inl ⟨i, rfl, h⟩
  · exact .inr ⟨k, rfl, h⟩
theorem ok_int : Ok1 Z rInt1 (b1T .int) := fun Sh F ms σ H env x ta A t Q s rx hf fin => by
  cases ta with
  | int i => cases rx.intI; cases hf; exact .inl ⟨i, rfl, fin.sh s (.int _)⟩
  | bl k => cases rx.blI; cases hf; exact .inr ⟨k, rfl, fin.sh s (.int _)⟩
  | _ => cases hf
def rAbs1 : V → Hp → VK → Prop := fun x H Q => ∃ i, x = .int i ∧ Q (.int (if i < 0 then -i else i)) H
theorem cr_abs : CallR X (.builtin "abs") (one rAbs1) := CallR.imp call_abs fun xs H Q ⟨x, e, i, e2, h⟩ => by subst e2; exact ⟨i, e, h⟩
theorem ok_abs : Ok1 Z rAbs1 (b1T .abs) := fun Sh F ms σ H env x ta A t Q s rx hf fin => by
  cases ta with
  | int i => cases rx.intI; cases hf; exact ⟨i, rfl, fin.sh s (.int _)⟩
  | _ => cases hf
def rBool1 : V → Hp → VK → Prop := fun x H Q => ∃ k, x = .bl k ∧ Q (.bl k) H
theorem cr_bool : CallR X (.type "bool") (one rBool1) := CallR.imp call_bool1 fun xs H Q ⟨x, e, i, e2, h⟩ => by subst e2; exact .inr ⟨i, e, h⟩
theorem ok_bool : Ok1 Z rBool1 (b1T .bool) := fun Sh F ms σ H env x ta A t Q s rx hf fin => by
  cases ta with
  | bl k => cases rx.blI; cases hf; exact ⟨k, rfl, fin.sh s (.bl _)⟩
  | _ => cases hf
/-! ### list, tuple, dict -/
def rListZ (K : PySem.W.Frag) : V → Hp → VK → Prop := fun x H Q => (∃ p ys, x = .ref p ∧ (SqL K H p ys ∨ SqT K H p ys) ∧ ∀ l, H l = none → Q (.ref l) (upd H l (.lst ys))) ∨
  ∃ (a : Addr) (kvs : List (Key × V)), x = .ref a ∧ Rd H a (.dK kvs) ∧ ∀ p, H p = none → Q (.ref p) (upd H p (.lst (kvs.map fun kv => kV kv.1)))
theorem cr_list (hc : X.calm = true) : CallR X (.type "list") (one (rListZ X.K)) := CallR.imp (CallR.or call_list_of (call_listD hc)) fun xs H Q ⟨x, e, h⟩ => by
  subst e
  rcases h with ⟨p, ys, rfl, h⟩ | ⟨a, kvs, rfl, h⟩
  · exact .inl ⟨p, ys, rfl, h⟩
  · exact .inr ⟨a, kvs, rfl, h⟩
/-- a dict of ints and texts -/
theorem Rep.dicI {o : Bool} {l : List (T × T)} {v : V} (r : Rep Z Sh H v (.dic o l) A) (s : SR Z Sh F ms σ H env) (h : (l.all fun p => kind? p.1 == some false) = true) :
    ∃ a kvs, v = .ref a ∧ Rd H a (.dK kvs) ∧ kvs.map (fun p => keyT p.1) = l.map (·.1) ∧ RpL Z Sh (kvs.map (·.2)) (l.map fun p => sh1 p.2) := by
  have no : ∀ {xs : List (NestedKey × Addr × V)}, (l ≠ [] ∧ ∀ q ∈ l, kind? q.1 = some true) → False := fun {xs} ⟨h1, h2⟩ => by
    cases l with
    | nil => exact h1 rfl
    | cons p l =>
      have e1 := h2 p List.mem_cons_self
      rw [List.all_cons, Bool.and_eq_true, e1] at h
      exact absurd h.1 (by decide)
  cases r with
  | sh r =>
    cases r with
    | dic0 h hlen hkk hs =>
      refine ⟨_, _, rfl, .inr ⟨_, s.sub _ _ h⟩, hkk, by simp [hlen], fun i v t h1 h2 => ?_⟩
      rw [List.getElem?_map] at h1 h2
      obtain ⟨p, g1, rfl⟩ := Option.map_eq_some_iff.mp h1
      obtain ⟨q, g2, rfl⟩ := Option.map_eq_some_iff.mp h2
      exact VRep.at' (H := H) (B := []) (VRep.ofRpL (RpL.nil.cons (hs i p q g1 g2))) (i := 0) rfl rfl
    | dic1 h hlen hkk hp hr hs => exact (no (xs := []) hp).elim
  | dic0 h n hkk hs =>
    refine ⟨_, _, rfl, .inl h, hkk, ?_, fun i v t h1 h2 => ?_⟩
    · have := congrArg List.length hkk; simpa using this
    · rw [List.getElem?_map] at h2
      obtain ⟨q, g2, rfl⟩ := Option.map_eq_some_iff.mp h2
      exact hs.at' h1 (by rw [List.getElem?_map, g2]; rfl)
  | dic1 h n hkk hp hr hs => exact (no (xs := []) hp).elim
theorem okK0_kind {t : T} (h : okK0 t = true) : kind? t = some false := by cases t <;> first | rfl | cases h
theorem okK0_rp {k : Key} (h : okK0 (keyT k) = true) : Rp Z Sh (kV k) (keyT k) := by
  cases k with
  | inl i => exact .int i
  | inr z =>
    have h' : (decide (z.cps.toList.length ≤ line) && z.cps.toList.all fun c => decide (c < 1114112)) = true := h
    rw [Bool.and_eq_true, decide_eq_true_eq, List.all_eq_true] at h'
    have e : z = sOf z.cps.toList := by cases z; simp [sOf]
    have := Rp.str (Z := Z) (Sh := Sh) z.cps.toList ⟨h'.1, fun c hc => by simpa using h'.2 c hc⟩
    rw [← e] at this
    exact this
theorem okKeys {kvs : List (Key × V)} {l : List (T × T)} (hk : kvs.map (fun p => keyT p.1) = l.map (·.1)) (ok : (l.all fun p => okK0 p.1) = true) : RpL Z Sh (kvs.map fun kv => kV kv.1) (l.map (·.1)) := by
  induction kvs generalizing l with
  | nil =>
    cases l with
    | nil => exact RpL.nil
    | cons _ _ => simp at hk
  | cons p kvs ih =>
    cases l with
    | nil => simp at hk
    | cons q l =>
      simp only [List.map_cons, List.cons.injEq] at hk
      rw [List.all_cons, Bool.and_eq_true] at ok
      refine RpL.cons ?_ (ih hk.2 ok.2)
      show Rp Z Sh (kV p.1) q.1
      rw [← hk.1] at ok ⊢
      exact okK0_rp ok.1
theorem ok_list : Ok1 Z (rListZ Z.K) (b1T .list) := fun Sh F ms σ H env x ta A t Q s rx hf fin => by
  cases ta with
  | tup l =>
    obtain ⟨p, vs, rfl, q, r, _⟩ := rx.tupI s
    cases hf
    exact .inl ⟨p, vs, rfl, .inr q, fun l hl => fin.newL s r hl⟩
  | lst o l =>
    obtain ⟨p, vs, rfl, q, r⟩ := rx.lstI s
    cases hf
    exact .inl ⟨p, vs, rfl, .inl (Rd.sq q), fun l hl => fin.newL s r hl⟩
  | dic o l =>
    have hf : (if (l.all fun p => okK0 p.1) = true then some (T.lst true (l.map (·.1))) else none) = some t := hf
    by_cases h : (l.all fun p => okK0 p.1) = true
    · rw [if_pos h] at hf
      cases hf
      obtain ⟨a, kvs, rfl, q, hk, r⟩ := rx.dicI s (List.all_eq_true.mpr fun p hp => by rw [okK0_kind (List.all_eq_true.mp h p hp)]; rfl)
      exact .inr ⟨a, kvs, rfl, q, fun p hp => fin.newL s (okKeys hk h) hp⟩
    · rw [if_neg h] at hf; cases hf
  | _ => cases hf
def rTupZ (K : PySem.W.Frag) : V → Hp → VK → Prop := fun x H Q => ∃ p ys, x = .ref p ∧ ((SqL K H p ys ∧ ∀ l, H l = none → Q (.ref l) (upd H l (.tup ys))) ∨ (SqT K H p ys ∧ Q (.ref p) H))
theorem cr_tuple : CallR X (.type "tuple") (one (rTupZ X.K)) := CallR.imp call_tuple_of fun xs H Q ⟨x, e, p, ys, e2, h⟩ => by subst e2; exact ⟨p, ys, e, h⟩
theorem ok_tuple : Ok1 Z (rTupZ Z.K) (b1T .tuple) := fun Sh F ms σ H env x ta A t Q s rx hf fin => by
  cases ta with
  | tup l =>
    obtain ⟨p, vs, rfl, q, r, q2⟩ := rx.tupI s
    cases hf
    exact ⟨p, vs, rfl, .inr ⟨q, fin.sh s (.tup q2 r.1 r.2)⟩⟩
  | lst o l =>
    obtain ⟨p, vs, rfl, q, r⟩ := rx.lstI s
    cases hf
    exact ⟨p, vs, rfl, .inl ⟨Rd.sq q, fun l hl => fin.newT s r hl⟩⟩
  | _ => cases hf
/-! ### lists of numbers, truths, texts -/
theorem ints_of : ∀ {vs : List V} {l : List T} {is : List Int}, RpL Z Sh vs l → ints? l = some is → vs = is.map V.int
  | [], [], is, _, h => by cases h; rfl
  | [], _ :: _, _, q, _ => by have := q.1; simp at this
  | _ :: _, [], _, q, _ => by have := q.1; simp at this
  | w :: vs, u :: l, is, q, h => by
    cases u with
    | int i =>
      have h : (ints? l).map (i :: ·) = some is := h
      obtain ⟨js, h1, rfl⟩ := Option.map_eq_some_iff.mp h
      have h2 := q.head
      cases h2
      rw [ints_of q.tail h1]
      rfl
    | _ => cases h
theorem bls_of : ∀ {vs : List V} {l : List T} {is : List Bool}, RpL Z Sh vs l → bls? l = some is → vs = is.map V.bl
  | [], [], is, _, h => by cases h; rfl
  | [], _ :: _, _, q, _ => by have := q.1; simp at this
  | _ :: _, [], _, q, _ => by have := q.1; simp at this
  | w :: vs, u :: l, is, q, h => by
    cases u with
    | bl i =>
      have h : (bls? l).map (i :: ·) = some is := h
      obtain ⟨js, h1, rfl⟩ := Option.map_eq_some_iff.mp h
      have h2 := q.head
      cases h2
      rw [bls_of q.tail h1]
      rfl
    | _ => cases h
theorem strs_of : ∀ {vs : List V} {l : List T} {is : List (List Nat)}, RpL Z Sh vs l → strs? l = some is → vs = (is.map sOf).map V.str ∧ ∀ s ∈ is, okS s
  | [], [], is, _, h => by cases h; exact ⟨rfl, fun _ h => by simp at h⟩
  | [], _ :: _, _, q, _ => by have := q.1; simp at this
  | _ :: _, [], _, q, _ => by have := q.1; simp at this
  | w :: vs, u :: l, is, q, h => by
    cases u with
    | str i =>
      have h : (strs? l).map (i :: ·) = some is := h
      obtain ⟨js, h1, rfl⟩ := Option.map_eq_some_iff.mp h
      have h2 := q.head
      cases h2 with
      | str _ hi =>
        obtain ⟨e, hj⟩ := strs_of q.tail h1
        rw [e]
        refine ⟨rfl, fun s hs => ?_⟩
        rcases List.mem_cons.mp hs with rfl | hs
        · exact hi
        · exact hj s hs
    | _ => cases h
/-- a sequence: a list or a tuple -/
theorem seq_of {v : V} {t : T} {l : List T} (s : SR Z Sh F ms σ H env) (r : Rep Z Sh H v t A) (h : seq? t = some l) : ∃ p vs, v = .ref p ∧ (SqL Z.K H p vs ∨ SqT Z.K H p vs) ∧ RpL Z Sh vs l := by
  cases t with
  | tup k => cases h; obtain ⟨p, vs, e, q, r, _⟩ := r.tupI s; exact ⟨p, vs, e, .inr q, r⟩
  | lst o k => cases h; obtain ⟨p, vs, e, q, r⟩ := r.lstI s; exact ⟨p, vs, e, .inl (Rd.sq q), r⟩
  | _ => cases h
end
end Vi

set_option autoImplicit false
set_option Elab.async false
set_option linter.all false
set_option maxRecDepth 100000
/-! VI: built-ins over lists, methods. -/
namespace Vi
open PySem PySem.Spec PyProof.Rows L2
section
variable {X : Cx} {c : Cfg} {xp : Xp (zx X)} {e : E} {a b d : Expr} {pos : Pos}
variable {Z : Rw} {Sh H : Hp} {F : List Addr} {ms : List (Nat × V)} {σ : L2.St} {env : Env} {A B : List Addr}
def rIntsZ (K : PySem.W.Frag) (C : List Int → Int → Prop) : V → Hp → VK → Prop := fun x H Q => ∃ (a : Addr) (ns : List Int), x = V.ref a ∧ SqL K H a (ns.map V.int) ∧ ns.length = ns.length ∧ (∃ m, C ns m) ∧ ∀ m, C ns m → Q (.int m) H
theorem cr_sumZ (hc : X.calm = true) : CallR X (.builtin "sum") (one (rIntsZ X.K fun ns m => m = ns.sum)) := CallR.imp (cr_sum hc) fun xs H Q ⟨x, e, a, ns, e2, h, _, _, q⟩ => by subst e2; exact ⟨a, ns, e, h, q _ rfl⟩
theorem ok_sum : Ok1 Z (rIntsZ Z.K fun ns m => m = ns.sum) (b1T .sum) := fun Sh F ms σ H env x ta A t Q s rx hf fin => by
  cases ta with
  | lst o l =>
    obtain ⟨p, vs, rfl, q, r⟩ := rx.lstI s
    have hf : (ints? l).map (fun is => T.int is.sum) = some t := hf
    obtain ⟨is, h1, rfl⟩ := Option.map_eq_some_iff.mp hf
    have e := ints_of r h1
    subst e
    exact ⟨p, is, rfl, Rd.sq q, rfl, ⟨_, rfl⟩, fun m hm => by rw [hm]; exact fin.sh s (.int _)⟩
  | _ => cases hf
def MaxC (ns : List Int) (m : Int) : Prop := m ∈ ns ∧ ∀ y ∈ ns, y ≤ m
def MinC (ns : List Int) (m : Int) : Prop := m ∈ ns ∧ ∀ y ∈ ns, m ≤ y
theorem maxI_C : ∀ {ns : List Int} {m : Int}, maxI ns = some m → MaxC ns m
  | [], m, h => by cases h
  | [a], m, h => by cases h; exact ⟨by simp, fun y hy => by simp at hy; omega⟩
  | a :: b :: r, m, h => by
    have h : (maxI (b :: r)).map (fun b => if a < b then b else a) = some m := h
    obtain ⟨k, h1, rfl⟩ := Option.map_eq_some_iff.mp h
    obtain ⟨h2, h3⟩ := maxI_C h1
    by_cases z : a < k
    · simp only [z, if_true]
      exact ⟨List.mem_cons_of_mem _ h2, fun y hy => by rcases List.mem_cons.mp hy with rfl | hy; · omega
                                                       · exact h3 y hy⟩
    · simp only [z, if_false]
      exact ⟨List.mem_cons_self, fun y hy => by rcases List.mem_cons.mp hy with rfl | hy; · omega
                                                · have := h3 y hy; omega⟩
theorem minI_C : ∀ {ns : List Int} {m : Int}, minI ns = some m → MinC ns m
  | [], m, h => by cases h
  | [a], m, h => by cases h; exact ⟨by simp, fun y hy => by simp at hy; omega⟩
  | a :: b :: r, m, h => by
    have h : (minI (b :: r)).map (fun b => if b < a then b else a) = some m := h
    obtain ⟨k, h1, rfl⟩ := Option.map_eq_some_iff.mp h
    obtain ⟨h2, h3⟩ := minI_C h1
    by_cases z : k < a
    · simp only [z, if_true]
      exact ⟨List.mem_cons_of_mem _ h2, fun y hy => by rcases List.mem_cons.mp hy with rfl | hy; · omega
                                                       · exact h3 y hy⟩
    · simp only [z, if_false]
      exact ⟨List.mem_cons_self, fun y hy => by rcases List.mem_cons.mp hy with rfl | hy; · omega
                                                · have := h3 y hy; omega⟩
theorem cr_maxZ (hc : X.calm = true) : CallR X (.builtin "max") (one (rIntsZ X.K MaxC)) := CallR.imp (cr_max hc) fun xs H Q ⟨x, e, a, ns, e2, h, _, ⟨m, hm⟩, q⟩ => by
  subst e2; exact ⟨a, ns, e, h, List.length_pos_of_mem hm.1, fun m h1 h2 => q m ⟨h1, h2⟩⟩
theorem cr_minZ (hc : X.calm = true) : CallR X (.builtin "min") (one (rIntsZ X.K MinC)) := CallR.imp (cr_min hc) fun xs H Q ⟨x, e, a, ns, e2, h, _, ⟨m, hm⟩, q⟩ => by
  subst e2; exact ⟨a, ns, e, h, List.length_pos_of_mem hm.1, fun m h1 h2 => q m ⟨h1, h2⟩⟩
theorem ok_max : Ok1 Z (rIntsZ Z.K MaxC) (b1T .max) := fun Sh F ms σ H env x ta A t Q s rx hf fin => by
  cases ta with
  | lst o l =>
    obtain ⟨p, vs, rfl, q, r⟩ := rx.lstI s
    have hf : ((ints? l).bind fun is => (maxI is).map T.int) = some t := hf
    obtain ⟨is, h1, hf⟩ := Option.bind_eq_some_iff.mp hf
    obtain ⟨m, h2, rfl⟩ := Option.map_eq_some_iff.mp hf
    have e := ints_of r h1
    subst e
    have hm := maxI_C h2
    exact ⟨p, is, rfl, Rd.sq q, rfl, ⟨m, hm⟩, fun k hk => by
      have : k = m := by have := hm.2 k hk.1; have := hk.2 m hm.1; omega
      rw [this]; exact fin.sh s (.int _)⟩
  | _ => cases hf
theorem ok_min : Ok1 Z (rIntsZ Z.K MinC) (b1T .min) := fun Sh F ms σ H env x ta A t Q s rx hf fin => by
  cases ta with
  | lst o l =>
    obtain ⟨p, vs, rfl, q, r⟩ := rx.lstI s
    have hf : ((ints? l).bind fun is => (minI is).map T.int) = some t := hf
    obtain ⟨is, h1, hf⟩ := Option.bind_eq_some_iff.mp hf
    obtain ⟨m, h2, rfl⟩ := Option.map_eq_some_iff.mp hf
    have e := ints_of r h1
    subst e
    have hm := minI_C h2
    exact ⟨p, is, rfl, Rd.sq q, rfl, ⟨m, hm⟩, fun k hk => by
      have : k = m := by have := hm.2 k hk.1; have := hk.2 m hm.1; omega
      rw [this]; exact fin.sh s (.int _)⟩
  | _ => cases hf
def rBlsZ (K : PySem.W.Frag) (g : List Bool → Bool) : V → Hp → VK → Prop := fun x H Q => ∃ (a : Addr) (bs : List Bool), x = V.ref a ∧ SqL K H a (bs.map V.bl) ∧ Q (.bl (g bs)) H
theorem cr_allZ (hc : X.calm = true) : CallR X (.builtin "all") (one (rBlsZ X.K fun bs => bs.all id)) := CallR.imp (cr_all hc) fun xs H Q ⟨x, e, a, ns, e2, h, q⟩ => by subst e2; exact ⟨a, ns, e, h, q⟩
theorem cr_anyZ (hc : X.calm = true) : CallR X (.builtin "any") (one (rBlsZ X.K fun bs => bs.any id)) := CallR.imp (cr_any hc) fun xs H Q ⟨x, e, a, ns, e2, h, q⟩ => by subst e2; exact ⟨a, ns, e, h, q⟩
theorem bls_ok {g : List Bool → Bool} {x : V} {o : Bool} {l : List T} {t : T} {Q : VK} (s : SR Z Sh F ms σ H env) (rx : Rep Z Sh H x (.lst o l) A) (hf : (bls? l).map (fun bs => T.bl (g bs)) = some t) (fin : Fin Z Sh F ms σ H env t Q) : rBlsZ Z.K g x H Q := by
  obtain ⟨p, vs, rfl, q, r⟩ := rx.lstI s
  obtain ⟨is, h1, rfl⟩ := Option.map_eq_some_iff.mp hf
  have e := bls_of r h1
  subst e
  exact ⟨p, is, rfl, Rd.sq q, fin.sh s (.bl _)⟩
theorem ok_all : Ok1 Z (rBlsZ Z.K fun bs => bs.all id) (b1T .all) := fun Sh F ms σ H env x ta A t Q s rx hf fin => by
  cases ta with
  | lst o l => exact bls_ok s rx hf fin
  | _ => cases hf
theorem ok_any : Ok1 Z (rBlsZ Z.K fun bs => bs.any id) (b1T .any) := fun Sh F ms σ H env x ta A t Q s rx hf fin => by
  cases ta with
  | lst o l => exact bls_ok s rx hf fin
  | _ => cases hf
/-! ### two arguments -/
def two (r : R2) : List V → Hp → VK → Prop := fun xs H Q => ∃ x y, xs = [x, y] ∧ r x y H Q
theorem se_call2 {f : B2} {ea eb : E} {x : Str} {p : Pos} {r : R2} (hpe : ∀ {t : TA}, PA X [a, b] t → PE X (.Call (.Name x p) [a, b] [] pos) (tCB (two r) t)) (ok : Ok2 (zx X) r (b2T f)) (ha : SE X c xp ea a) (hb : SE X c xp eb b) (hs : notStar a = true) (hs2 : notStar b = true) :
    SE X c xp (.b2 f ea eb) (.Call (.Name x p) [a, b] [] pos) :=
  .plain rfl (peI (hpe (pa_cons ha.o (pa_cons hb.o pa_nil (star_of hs2)) (star_of hs))) fun σ H Q h => rO_mono (bin_imp ok σ H Q h) fun v H1 q => rO_mono q fun w H2 q => ⟨v, w, rfl, q⟩) (fun _ => rfl)
theorem bf_call2 {x : Str} {id : String} {p : Pos} {r : List V → Hp → VK → Prop} (B : Bf X x id) (hs : notStar a = true) (hs2 : notStar b = true) (h : CallR X (.builtin id) r) {t : TA} (ha : PA X [a, b] t) : PE X (.Call (.Name x p) [a, b] [] pos) (tCB r t) :=
  pe_callB h B.hg B.hm B.hv ha B.h1 B.h2 (star_of hs) (by
    have e : starEach [b] X.env = (false, eval b X.env) :: starEach [] X.env := star_of hs2
    rw [e]; rfl)
theorem cr_min2 (hc : X.calm = true) : CallR X (.builtin "min") (two (rI0 fun i j => .int (if j < i then j else i))) := CallR.imp (call_min2 hc) fun xs H Q ⟨x, y, e, i, j, e1, e2, h⟩ => by subst e1; subst e2; exact ⟨i, j, e, h⟩
theorem cr_max2 (hc : X.calm = true) : CallR X (.builtin "max") (two (rI0 fun i j => .int (if j > i then j else i))) := CallR.imp (call_max2 hc) fun xs H Q ⟨x, y, e, i, j, e1, e2, h⟩ => by subst e1; subst e2; exact ⟨i, j, e, h⟩
theorem ok_min2 : Ok2 Z (rI0 fun i j => .int (if j < i then j else i)) (b2T .min) := fun Sh F ms σ H env x y ta tb A B t Q s rx ry hf fin => by
  cases ta with
  | int i =>
    cases tb with
    | int j => cases rx.intI; cases ry.intI; cases hf; exact ⟨i, j, rfl, rfl, fin.sh s (.int _)⟩
    | _ => cases hf
  | _ => cases tb <;> cases hf
theorem ok_max2 : Ok2 Z (rI0 fun i j => .int (if j > i then j else i)) (b2T .max) := fun Sh F ms σ H env x y ta tb A B t Q s rx ry hf fin => by
  cases ta with
  | int i =>
    cases tb with
    | int j => cases rx.intI; cases ry.intI; cases hf; exact ⟨i, j, rfl, rfl, fin.sh s (.int _)⟩
    | _ => cases hf
  | _ => cases tb <;> cases hf
end
end Vi

set_option autoImplicit false
set_option Elab.async false
set_option linter.all false
set_option maxRecDepth 100000
/-! VI: methods, isinstance. -/
namespace Vi
open PySem PySem.Spec PyProof.Rows L2
section
variable {X : Cx} {c : Cfg} {xp : Xp (zx X)} {e : E} {a b d : Expr} {pos apos : Pos}
variable {Z : Rw} {Sh H : Hp} {F : List Addr} {ms : List (Nat × V)} {σ : L2.St} {env : Env} {A B : List Addr}
/-- no call of a name without arguments -/
def notSuper : Expr → Bool
  | .Call _ [] [] _ => false
  | _ => true
theorem base_of {o : Expr} {m : Str} {env : PySem.Env} (h : notSuper o = true) : attributeBase o m env (eval o env) = eval o env := by
  unfold attributeBase
  split
  · cases h
  · rfl
/-- a text's method with one argument -/
structure Mo (X : Cx) (name : Str) (id : String) (r : V → List V → Hp → VK → Prop) : Prop where
  slot : Slot "str" name id
  ty : typeOf (.builtin id) = pure (.type "method_descriptor")
  mt : MtR X id r
theorem few1 {cpos : Pos} (hs : notStar b = true) : ((((backTo cpos (starEach [b] X.env)).all fun x => !x.1) && (backToKw cpos (keywordEach [] X.env)).all fun x => x.1.isSome) && decide (([b].length + ([] : List Keyword).length + if ([] : List Keyword).isEmpty = true then 0 else 1) < 30)) = true := by
  have e : starEach [b] X.env = (false, eval b X.env) :: starEach [] X.env := star_of hs
  rw [e]; rfl
theorem any1 {cpos : Pos} : ((backTo cpos (starEach [] X.env)).any fun x => x.1) = false := rfl
def rMt (r : Str → V → Hp → VK → Prop) : V → List V → Hp → VK → Prop := fun x xs H Q => ∃ z y, x = .str z ∧ xs = [y] ∧ r z y H Q
theorem se_mt {f : Mt} {ea eb : E} {name : Str} {id : String} {r : Str → V → Hp → VK → Prop} (mo : Mo X name id (rMt r)) (ok : ∀ s, okS s → Ok1 (zx X) (r (sOf s)) (mtT f s)) (ha : SE X c xp ea a) (hb : SE X c xp eb b) (h1 : notSuper a = true) (h2 : notStar b = true) (h3 : (apos.endLine == pos.line) = true) :
    SE X c xp (.mt f ea eb) (.Call (.Attribute a name apos) [b] [] pos) := by
  refine .plain rfl (peI (pe_bm PySem.F.plainAttrs_str mo.slot mo.ty mo.mt (pe_strong ha) (pa_cons hb.o pa_nil (star_of h2)) (base_of h1) (few1 h2) h3 (star_of h2) any1) fun σ H Q ⟨Sh, F, ms, env, sr, out⟩ => ?_) (fun _ => rfl)
  have out : Out ((strong (isRd ea) (ev c ea) env).bind fun t e => match t with
    | .str s => (opd (isRd eb) (ev c eb) e).bind fun p e => fin1 p (mtT f s) e
    | _ => .no) _ _ := out
  refine ⟨Sh, F, ms, env, sr, out.bind.imp (fun t e1 q1 v1 H1 Sh1 A s1 r1 a1 => ?_) fun _ _ _ x => x⟩
  cases t with
  | str s =>
    obtain ⟨rfl, os⟩ := r1.strI
    refine ⟨rfl, Sh1, F, ms, e1, s1.less, (show Out ((opd (isRd eb) (ev c eb) e1).bind _) _ _ from q1).bind.imp (fun p e2 q2 v2 H2 Sh2 B s2 r2 a2 => ?_) fun _ _ _ x => xp.mono [] a1 x⟩
    obtain ⟨tb, t, g2, hf, fin⟩ := out_fin1 q2
    obtain ⟨B', w2⟩ := r2.fin s2.less g2
    exact ⟨_, _, rfl, rfl, ok s os Sh2 F ms σ H2 e2 v2 tb B' t Q s2.less w2 hf fun v H' Sh' C s3 r3 a3 => fin v H' Sh' C s3 r3 ((a1.trans a2).trans a3)⟩
  | _ => exact q1.elim
/-! ### join -/
theorem joinS_len (sep : List Nat) : ∀ l : List (List Nat), (joinS sep l).length ≤ (l.map List.length).sum + l.length * sep.length
  | [] => by simp [joinS]
  | [a] => by simp [joinS]
  | a :: b :: r => by
    have := joinS_len sep (b :: r)
    simp only [joinS, List.length_append, List.map_cons, List.sum_cons, List.length_cons] at this ⊢
    rw [Nat.add_mul, Nat.one_mul]
    omega
theorem joinS_mem (sep : List Nat) {ch : Nat} : ∀ {l : List (List Nat)}, ch ∈ joinS sep l → ch ∈ sep ∨ ∃ x ∈ l, ch ∈ x
  | [], h => by simp [joinS] at h
  | [a], h => .inr ⟨a, by simp, h⟩
  | a :: b :: r, h => by
    simp only [joinS, List.mem_append] at h
    rcases h with (h | h) | h
    · exact .inr ⟨a, by simp, h⟩
    · exact .inl h
    · rcases joinS_mem sep h with h | ⟨x, hx, h⟩
      · exact .inl h
      · exact .inr ⟨x, List.mem_cons_of_mem _ hx, h⟩
theorem join_sOf (sep : List Nat) : ∀ l : List (List Nat), Txt.join (sOf sep) (l.map sOf) = sOf (joinS sep l) := by
  have aux : ∀ l : List (List Nat), Str.join (sOf sep) (l.map sOf) = sOf (joinS sep l) := by
    intro l
    induction l with
    | nil => rfl
    | cons a r ih =>
      cases r with
      | nil => rfl
      | cons b r =>
        show sOf a ++ sOf sep ++ Str.join (sOf sep) ((b :: r).map sOf) = _
        rw [ih, sOf_append, sOf_append]
        rfl
  intro l
  exact (StrLaws.glued_eq_join _ _).trans (aux l)
def rJoin (K : PySem.W.Frag) : Str → V → Hp → VK → Prop := fun z y H Q => ∃ p ys, y = .ref p ∧ (SqL K H p (ys.map V.str) ∨ SqT K H p (ys.map V.str)) ∧ (ys.map fun x => x.length).sum + ys.length * z.length ≤ 16777216 ∧ Q (.str (Txt.join z ys)) H
theorem mo_join : Mo X "join" "str.join" (rMt (rJoin X.K)) := ⟨PySem.F.slot_str_join, PySem.F.type_str_join, fun pins s σ H x xs v us Q I rx rs ⟨z, y, e1, e2, p, ys, e3, h1, h2, h3⟩ => mt_join pins s σ H x xs v us Q I rx rs ⟨z, p, ys, e1, by rw [e2, e3], h1, h2, h3⟩⟩
theorem ok_join (sep : List Nat) (os : okS sep) : Ok1 Z (rJoin Z.K (sOf sep)) (mtT .join sep) := fun Sh F ms σ H env x ta A t Q s rx hf fin => by
  have hf : ((seq? ta).bind fun l => (strs? l).bind fun ss => if (ss.map List.length).sum + ss.length * sep.length ≤ line then some (T.str (joinS sep ss)) else none) = some t := by cases ta <;> exact hf
  obtain ⟨l, h1, hf⟩ := Option.bind_eq_some_iff.mp hf
  obtain ⟨ss, h2, hf⟩ := Option.bind_eq_some_iff.mp hf
  by_cases h : (ss.map List.length).sum + ss.length * sep.length ≤ line
  · rw [if_pos h] at hf
    cases hf
    obtain ⟨p, vs, rfl, q, r⟩ := seq_of s rx h1
    obtain ⟨e, oo⟩ := strs_of r h2
    subst e
    refine ⟨p, ss.map sOf, rfl, q, ?_, ?_⟩
    · rw [List.map_map, List.length_map, sOf_length]
      have e : (fun x => Str.length x) ∘ sOf = List.length := by funext x; exact sOf_length x
      have e' : ((fun x : Str => x.length) ∘ sOf) = List.length := e
      rw [e']
      exact h
    · rw [join_sOf]
      refine fin.sh s (.str _ ⟨Nat.le_trans (joinS_len sep ss) h, fun ch hch => ?_⟩)
      rcases joinS_mem sep hch with hc | ⟨x, hx, hc⟩
      · exact os.2 ch hc
      · exact (oo x hx).2 ch hc
  · rw [if_neg h] at hf; cases hf
/-! ### index -/
def rIndex1 : Str → V → Hp → VK → Prop := fun z y H Q => ∃ b i rest, y = .str b ∧ Builtin.Str.occurrences z b 0 z.length 1 = i :: rest ∧ Q (.int (i : Nat)) H
theorem mo_index : Mo X "index" "str.index" (rMt rIndex1) := ⟨PySem.F.slot_str_index, PySem.F.type_str_index, fun pins s σ H x xs v us Q I rx rs ⟨z, y, e1, e2, b, i, rest, e3, ho, q⟩ => by
  subst e1; subst e2; subst e3
  obtain ⟨t, e⟩ := rx
  subst e
  cases rs with
  | cons r1 rs =>
    cases rs
    obtain ⟨t2, e⟩ := r1
    subst e
    exact PySem.SC.index ho ⟨.int (i : Nat), H, I.tok _, ⟨_, rfl⟩, q⟩⟩
theorem idxOf_some {α : Type} {p : α → Bool} : ∀ {l : List α} {n : Nat}, idxOf p l = some n → (∃ x, l[n]? = some x ∧ p x = true) ∧ ∀ k, k < n → ∀ x, l[k]? = some x → p x = false
  | [], n, h => by cases h
  | a :: r, n, h => by
    unfold idxOf at h
    by_cases z : p a = true
    · rw [if_pos z] at h; cases h
      exact ⟨⟨a, rfl, z⟩, fun k hk => by omega⟩
    · rw [if_neg z] at h
      obtain ⟨m, h1, rfl⟩ := Option.map_eq_some_iff.mp h
      obtain ⟨h2, h3⟩ := idxOf_some h1
      refine ⟨by simpa using h2, fun k hk x hx => ?_⟩
      cases k with
      | zero => simp at hx; subst hx; simpa using z
      | succ k => exact h3 k (by omega) x (by simpa using hx)
theorem occ_idx {s : List Nat} {ch n : Nat} (h : idxOf (· == ch) s = some n) : ∃ rest, Builtin.Str.occurrences (sOf s) (sOf [ch]) 0 (sOf s).length 1 = n :: rest := by
  obtain ⟨⟨x, h1, h2⟩, h3⟩ := idxOf_some h
  have h2 : x = ch := by simpa using h2
  subst h2
  have at_n : (n + (sOf [x]).length ≤ (sOf s).length ∧ Builtin.Str.subAt (sOf s) (sOf [x]) n = true) := (StrLaws.subAt_one (sOf s) x n).mpr (by rw [sOf_cps]; exact h1)
  rcases StrLaws.occ_head (sOf s) (sOf [x]) 1 (Nat.le_refl _) with ⟨_, hn⟩ | ⟨i, r, e, hi, hlt⟩
  · exact (hn n at_n).elim
  · have hi2 := (StrLaws.subAt_one (sOf s) x i).mp hi
    rw [sOf_cps] at hi2
    have : i = n := by
      rcases Nat.lt_trichotomy i n with z | z | z
      · have := h3 i z x hi2
        simp at this
      · exact z
      · exact (hlt n z at_n).elim
    rw [this] at e
    exact ⟨r, e⟩
theorem ok_index (z : List Nat) (os : okS z) : Ok1 Z (rIndex1 (sOf z)) (mtT .index z) := fun Sh F ms σ H env x ta A t Q s rx hf fin => by
  cases ta with
  | str w =>
    match w, hf, rx with
    | [], hf, _ => cases hf
    | _ :: _ :: _, hf, _ => cases hf
    | [ch], hf, rx =>
      have hf : (idxOf (· == ch) z).map (fun n => T.int (n : Nat)) = some t := hf
      obtain ⟨n, h1, rfl⟩ := Option.map_eq_some_iff.mp hf
      obtain ⟨rfl, _⟩ := rx.strI
      obtain ⟨rest, h2⟩ := occ_idx h1
      exact ⟨_, n, rest, rfl, h2, fin.sh s (.int _)⟩
  | _ => cases hf
/-! ### isinstance -/
def tyName : Ty → String
  | .int => "int"
  | .bool => "bool"
  | .str => "str"
  | .tuple => "tuple"
  | .list => "list"
theorem tyX_lst {K : PySem.W.Frag} {a : Addr} {xs : List V} (h : SqL K H a xs) : TyX K H (.ref a) (.type "list") := by
  rcases h with (h | ⟨o, h⟩) | ⟨o, its, n, h1, h2, _⟩
  · exact .base (.lst h)
  · exact .base (.frz h)
  · exact .kList h1 h2
theorem tyX_tup {K : PySem.W.Frag} {a : Addr} {xs : List V} (h : SqT K H a xs) : TyX K H (.ref a) (.type "tuple") := by
  rcases h with (h | ⟨o, h⟩) | ⟨o, its, n, h1, h2, _⟩
  · exact .base (.tup h)
  · exact .fTuple h
  · exact .kTuple h1 h2
theorem isi_ty {v : V} {t : T} {ty : Ty} {r : Bool} (s : SR Z Sh F ms σ H env) (rx : Rep Z Sh H v t A) (h : isiT ty t = some r) : ∃ n, TyX Z.K H v (.type n) ∧ kitB n (tyName ty) = some r := by
  cases t with
  | non => cases rx.nonI; refine ⟨_, .base .non, ?_⟩; cases ty <;> (cases h; decide +kernel)
  | und => cases ty <;> cases h
  | bl b => cases rx.blI; refine ⟨_, .base (.bl _), ?_⟩; cases ty <;> (cases h; decide +kernel)
  | int i => cases rx.intI; refine ⟨_, .base (.int _), ?_⟩; cases ty <;> (cases h; decide +kernel)
  | str z => obtain ⟨rfl, _⟩ := rx.strI; refine ⟨_, .base (.str _), ?_⟩; cases ty <;> (cases h; decide +kernel)
  | tup l => obtain ⟨p, vs, rfl, q, _⟩ := rx.tupI s; refine ⟨_, tyX_tup q, ?_⟩; cases ty <;> (cases h; decide +kernel)
  | lst o l => obtain ⟨p, vs, rfl, q, _⟩ := rx.lstI s; refine ⟨_, tyX_lst q, ?_⟩; cases ty <;> (cases h; decide +kernel)
  | dic o l => cases ty <;> cases h
theorem se_isi {ea : E} {ty : Ty} {x tn : Str} {p p2 : Pos} (B : Bf X x "isinstance") (Bn : Bt X tn (tyName ty)) (ha : SE X c xp ea a) (hs : notStar a = true) : SE X c xp (.isi ty ea) (.Call (.Name x p) [a, .Name tn p2] [] pos) := by
  have hT : PE X (.Name tn p2) (tC (.ty (tyName ty))) := pe_bltn Bn.hg Bn.hm Bn.hv rfl Bn.h1 Bn.h2
  have e : starEach [Expr.Name tn p2] X.env = (false, eval (.Name tn p2) X.env) :: starEach [] X.env := rfl
  refine .plain rfl (peI (pe_callB call_isi B.hg B.hm B.hv (pa_cons ha.o (pa_cons hT pa_nil e) (star_of hs)) B.h1 B.h2 (star_of hs) (by rw [e]; rfl)) fun σ H Q ⟨Sh, F, ms, env, sr, out⟩ => ?_) (fun _ => rfl)
  refine ⟨Sh, F, ms, env, sr, (show Out ((opd (isRd ea) (ev c ea) env).bind fun o e => fin1 o (fun t => (isiT ty t).map .bl) e) _ _ from out).bind.imp (fun o e1 h1 v1 H1 Sh1 A s1 r1 a1 => ?_) fun _ _ _ x => x⟩
  obtain ⟨ta, t, g1, hf, fin⟩ := out_fin1 h1
  obtain ⟨A', w⟩ := r1.fin s1.less g1
  obtain ⟨r, h2, rfl⟩ := Option.map_eq_some_iff.mp hf
  obtain ⟨n, h3, h4⟩ := isi_ty s1.less w h2
  exact ⟨_, _, _, _, r, rfl, .ty _, h3, kit_ty h4, fin _ H1 Sh1 [] s1.less (.sh (.bl _)) a1⟩
end
end Vi

set_option autoImplicit false
set_option Elab.async false
set_option linter.all false
set_option maxRecDepth 100000
/-! VI: into a call and out of it. -/
namespace Vi
open PySem PySem.Spec PyProof.Rows L2
/-- the places of values in flight, the last first -/
def FL : List (List Addr) → List Addr
  | [] => []
  | A :: r => FL r ++ A
theorem mem_FL {a : Addr} : ∀ {AA : List (List Addr)}, a ∈ FL AA ↔ ∃ A ∈ AA, a ∈ A
  | [] => by simp [FL]
  | A :: r => by
    rw [FL, List.mem_append, mem_FL]
    simp only [List.mem_cons, exists_eq_or_imp]
    constructor
    · rintro (h | h)
      · exact .inr h
      · exact .inl h
    · rintro (h | h)
      · exact .inr h
      · exact .inl h
theorem nodup_FL : ∀ {AA : List (List Addr)}, (FL AA).Nodup → (∀ (j : Nat) A, AA[j]? = some A → A.Nodup) ∧ ∀ (j l : Nat) A B, j ≠ l → AA[j]? = some A → AA[l]? = some B → ∀ a ∈ A, a ∉ B
  | [], _ => ⟨fun j A h => by simp at h, fun j l A B _ h => by simp at h⟩
  | C :: r, h => by
    rw [FL, List.nodup_append] at h
    obtain ⟨h1, h2, h3⟩ := h
    obtain ⟨i1, i2⟩ := nodup_FL h1
    refine ⟨fun j A e => ?_, fun j l A B hjl e1 e2 a ha hb => ?_⟩
    · cases j with
      | zero => simp at e; subst e; exact h2
      | succ j => exact i1 j A (by simpa using e)
    · cases j with
      | zero =>
        simp at e1; subst e1
        cases l with
        | zero => exact hjl rfl
        | succ l => exact h3 a (mem_FL.mpr ⟨B, List.mem_of_getElem? (by simpa using e2), hb⟩) a ha rfl
      | succ j =>
        cases l with
        | zero => simp at e2; subst e2; exact h3 a (mem_FL.mpr ⟨A, List.mem_of_getElem? (by simpa using e1), ha⟩) a hb rfl
        | succ l => exact i2 j l A B (by omega) (by simpa using e1) (by simpa using e2) a ha hb
/-- what the arguments are -/
inductive ArgsRel (Z : Rw) (σ : L2.St) (Sh H : Hp) : List V → List (T ⊕ Nat) → List (List Addr) → Prop where
  | nil : ArgsRel Z σ Sh H [] [] []
  | val {v : V} {t : T} {A : List Addr} {vs : List V} {as : List (T ⊕ Nat)} {AA : List (List Addr)} (h : Rep Z Sh H v t A) (r : ArgsRel Z σ Sh H vs as AA) : ArgsRel Z σ Sh H (v :: vs) (.inl t :: as) (A :: AA)
  | mu {v : V} {i : Nat} {vs : List V} {as : List (T ⊕ Nat)} {AA : List (List Addr)} (h : σ[i]? = some (some v)) (r : ArgsRel Z σ Sh H vs as AA) : ArgsRel Z σ Sh H (v :: vs) (.inr i :: as) ([] :: AA)
section
variable {Z : Rw} {Sh Sh' H H' : Hp} {F : List Addr} {ms : List (Nat × V)} {σ : L2.St} {env : Env} {vs : List V} {as : List (T ⊕ Nat)} {AA : List (List Addr)} {ts : List T}
theorem ArgsRel.stay (r : ArgsRel Z σ Sh H vs as AA) (a : Aft Sh F H Sh' H') (hA : ∀ x ∈ FL AA, x ∈ F) (hS : ∀ x ∈ F, Sh' x = none) : ArgsRel Z σ Sh' H' vs as AA := by
  induction r with
  | nil => exact .nil
  | val h _ ih => exact .val (h.stay a (fun x hx => hA x (mem_FL.mpr ⟨_, List.mem_cons_self, hx⟩)) hS) (ih fun x hx => hA x (by rw [FL]; exact List.mem_append_left _ hx))
  | mu h _ ih => exact .mu h (ih fun x hx => hA x (by rw [FL]; exact List.mem_append_left _ hx))
theorem ArgsRel.len (r : ArgsRel Z σ Sh H vs as AA) : vs.length = as.length ∧ AA.length = as.length := by
  induction r with
  | nil => exact ⟨rfl, rfl⟩
  | val _ _ ih => simp [ih.1, ih.2]
  | mu _ _ ih => simp [ih.1, ih.2]
/-- one argument -/
theorem ArgsRel.at (r : ArgsRel Z σ Sh H vs as AA) (hts : argsIn as env = some ts) : ∀ (j : Nat) (t : T), ts[j]? = some t →
    (∃ v A, as[j]? = some (.inl t) ∧ vs[j]? = some v ∧ AA[j]? = some A ∧ Rep Z Sh H v t A) ∨ ∃ i v, as[j]? = some (.inr i) ∧ vs[j]? = some v ∧ σ[i]? = some (some v) ∧ (env[i]?).bind id = some t := by
  induction r generalizing ts with
  | nil =>
    have hts : some ([] : List T) = some ts := hts
    cases hts
    intro j t h; simp at h
  | @val v t A vs as AA h _ ih =>
    have hts : (argsIn as env).map (t :: ·) = some ts := hts
    obtain ⟨ts', h1, rfl⟩ := Option.map_eq_some_iff.mp hts
    intro j u hj
    cases j with
    | zero => simp at hj; subst hj; exact .inl ⟨v, A, rfl, rfl, rfl, h⟩
    | succ j => simpa using ih h1 j u (by simpa using hj)
  | @mu v i vs as AA h _ ih =>
    have hts : ((env[i]?).bind id).bind (fun t => (argsIn as env).map (t :: ·)) = some ts := hts
    obtain ⟨t, h0, hts⟩ := Option.bind_eq_some_iff.mp hts
    obtain ⟨ts', h1, rfl⟩ := Option.map_eq_some_iff.mp hts
    intro j u hj
    cases j with
    | zero => simp at hj; subst hj; exact .inr ⟨i, v, rfl, rfl, h, h0⟩
    | succ j => simpa using ih h1 j u (by simpa using hj)
theorem ArgsRel.tlen (r : ArgsRel Z σ Sh H vs as AA) (hts : argsIn as env = some ts) : ts.length = as.length := by
  induction r generalizing ts with
  | nil => have hts : some ([] : List T) = some ts := hts; cases hts; rfl
  | @val v t A vs as AA h _ ih =>
    have hts : (argsIn as env).map (t :: ·) = some ts := hts
    obtain ⟨ts', h1, rfl⟩ := Option.map_eq_some_iff.mp hts
    simp [ih h1]
  | @mu v i vs as AA h _ ih =>
    have hts : ((env[i]?).bind id).bind (fun t => (argsIn as env).map (t :: ·)) = some ts := hts
    obtain ⟨t, h0, hts⟩ := Option.bind_eq_some_iff.mp hts
    obtain ⟨ts', h1, rfl⟩ := Option.map_eq_some_iff.mp hts
    simp [ih h1]
theorem mem_muts {i : Nat} : ∀ {as : List (T ⊕ Nat)}, i ∈ muts as ↔ ∃ j : Nat, as[j]? = some (.inr i)
  | [] => by simp [muts]
  | .inl t :: r => by
    rw [muts, mem_muts]
    constructor
    · rintro ⟨j, h⟩; exact ⟨j + 1, by simpa using h⟩
    · rintro ⟨j, h⟩
      cases j with
      | zero => simp at h
      | succ j => exact ⟨j, by simpa using h⟩
  | .inr k :: r => by
    rw [muts, List.mem_cons, mem_muts]
    constructor
    · rintro (rfl | ⟨j, h⟩)
      · exact ⟨0, rfl⟩
      · exact ⟨j + 1, by simpa using h⟩
    · rintro ⟨j, h⟩
      cases j with
      | zero => simp at h; exact .inl h.symm
      | succ j => exact .inr ⟨j, by simpa using h⟩
theorem nodupN_iff : ∀ {l : List Nat}, nodupN l = true → l.Nodup
  | [], _ => by simp
  | a :: r, h => by
    rw [nodupN, Bool.and_eq_true] at h
    rw [List.nodup_cons]
    exact ⟨by simpa using h.1, nodupN_iff h.2⟩
theorem muts_inj {i : Nat} : ∀ {as : List (T ⊕ Nat)}, (muts as).Nodup → ∀ {j l : Nat}, as[j]? = some (.inr i) → as[l]? = some (.inr i) → j = l
  | [], _, j, l, h, _ => by simp at h
  | .inl t :: r, nd, j, l, h1, h2 => by
    cases j with
    | zero => simp at h1
    | succ j =>
      cases l with
      | zero => simp at h2
      | succ l => exact congrArg (· + 1) (muts_inj (as := r) nd (by simpa using h1) (by simpa using h2))
  | .inr k :: r, nd, j, l, h1, h2 => by
    rw [muts, List.nodup_cons] at nd
    cases j with
    | zero =>
      simp at h1; subst h1
      cases l with
      | zero => rfl
      | succ l => exact (nd.1 (mem_muts.mpr ⟨l, by simpa using h2⟩)).elim
    | succ j =>
      cases l with
      | zero => simp at h2; subst h2; exact (nd.1 (mem_muts.mpr ⟨j, by simpa using h1⟩)).elim
      | succ l => exact congrArg (· + 1) (muts_inj (as := r) nd.2 (by simpa using h1) (by simpa using h2))
theorem outsIn_len : ∀ (as : List (T ⊕ Nat)) (outs env : Env), (outsIn as outs env).length = env.length
  | [], _, _ => by simp [outsIn]
  | .inl _ :: r, [], e => by simp [outsIn]
  | .inr _ :: r, [], e => by simp [outsIn]
  | .inl _ :: r, _ :: os, e => by rw [outsIn]; exact outsIn_len r os e
  | .inr i :: r, o :: os, e => by rw [outsIn, outsIn_len r os]; simp
/-- what the outs leave: a slot that is not handed over, and one that is -/
theorem outsIn_get : ∀ (as : List (T ⊕ Nat)) (outs env : Env) (i : Nat), (muts as).Nodup → outs.length = as.length → i < env.length →
    (i ∉ muts as ∧ (outsIn as outs env)[i]? = env[i]?) ∨ ∃ j : Nat, as[j]? = some (.inr i) ∧ (outsIn as outs env)[i]? = outs[j]?
  | [], outs, env, i, _, _, _ => .inl ⟨by simp [muts], by simp [outsIn]⟩
  | .inl _ :: r, [], e, i, _, h, _ => by simp at h
  | .inr _ :: r, [], e, i, _, h, _ => by simp at h
  | .inl _ :: r, o :: os, e, i, nd, h, hi => by
    rcases outsIn_get r os e i nd (by simpa using h) hi with h1 | ⟨j, h1, h2⟩
    · exact .inl h1
    · exact .inr ⟨j + 1, by simpa using h1, by simpa [outsIn] using h2⟩
  | .inr k :: r, o :: os, e, i, nd, h, hi => by
    rw [muts, List.nodup_cons] at nd
    rcases outsIn_get r os (e.set k o) i nd.2 (by simpa using h) (by simpa using hi) with ⟨h1, h2⟩ | ⟨j, h1, h2⟩
    · by_cases z : k = i
      · subst z
        refine .inr ⟨0, rfl, ?_⟩
        rw [outsIn, h2, List.getElem?_set_self hi]; rfl
      · refine .inl ⟨by rw [muts, List.mem_cons]; rintro (y | y); exact z y.symm; exact h1 y, ?_⟩
        rw [outsIn, h2, List.getElem?_set_ne z]
    · exact .inr ⟨j + 1, by simpa using h1, by simpa [outsIn] using h2⟩
end
end Vi

set_option autoImplicit false
set_option Elab.async false
set_option linter.all false
set_option maxRecDepth 100000
/-! VI: the state of a callee, the caller's state behind it. -/
namespace Vi
open PySem PySem.Spec PyProof.Rows L2
section
variable {Z : Rw} {Sh H : Hp} {F : List Addr} {ms : List (Nat × V)} {σ : L2.St} {env : Env} {vs : List V} {as : List (T ⊕ Nat)} {AA : List (List Addr)} {ts : List T}
/-- slots that are not handed over -/
def restOf (S : Nat → List Addr) (env : Env) (used : List Nat) : List Addr := (List.range env.length).flatMap fun i => if i ∈ used ∨ (env[i]?).bind id = none then [] else S i
theorem mem_rest {S : Nat → List Addr} {used : List Nat} {a : Addr} : a ∈ restOf S env used ↔ ∃ i t, i ∉ used ∧ (env[i]?).bind id = some t ∧ a ∈ S i := by
  unfold restOf
  rw [List.mem_flatMap]
  constructor
  · rintro ⟨i, hi, h⟩
    split at h
    · simp at h
    · rename_i z
      cases e : (env[i]?).bind id with
      | none => exact (z (.inr e)).elim
      | some t => exact ⟨i, t, fun y => z (.inl y), e, h⟩
  · rintro ⟨i, t, h1, h2, h3⟩
    have hi : i < env.length := by
      by_cases z : i < env.length
      · exact z
      · rw [List.getElem?_eq_none (by omega)] at h2; cases h2
    refine ⟨i, List.mem_range.mpr hi, ?_⟩
    rw [if_neg]
    · exact h3
    · rintro (z | z)
      · exact h1 z
      · rw [z] at h2; cases h2
theorem nodup_rest {S : Nat → List Addr} {used : List Nat} (h1 : ∀ i, (S i).Nodup) (h2 : ∀ i j, i ≠ j → ∀ a ∈ S i, a ∉ S j) : (restOf S env used).Nodup := by
  unfold restOf
  have aux : ∀ l : List Nat, l.Nodup → (l.flatMap fun i => if i ∈ used ∨ (env[i]?).bind id = none then [] else S i).Nodup := by
    intro l
    induction l with
    | nil => intro _; simp
    | cons i l ih =>
      intro nd
      rw [List.nodup_cons] at nd
      rw [List.flatMap_cons, List.nodup_append]
      refine ⟨?_, ih nd.2, fun a ha b hb e => ?_⟩
      · split
        · simp
        · exact h1 i
      · subst e
        obtain ⟨j, hj, hb⟩ := List.mem_flatMap.mp hb
        split at ha
        · simp at ha
        · split at hb
          · simp at hb
          · exact h2 i j (fun z => nd.1 (z ▸ hj)) a ha hb
  exact aux _ List.nodup_range
theorem call_in (s : SR Z Sh (FL AA ++ F) ms σ H env) (r : ArgsRel Z σ Sh H vs as AA) (hts : argsIn as env = some ts) (nd : nodupN (muts as) = true) :
    ∃ Fc, SR Z Sh Fc [] (vs.map some) H (ts.map some) ∧ (∀ a ∈ F, a ∈ Fc) ∧
      ∀ (Sh' H' : Hp) (A : List Addr) (outs : Env), SR Z Sh' (A ++ Fc) [] (vs.map some) H' outs → Aft Sh Fc H Sh' H' → SR Z Sh' (A ++ F) ms σ H' (outsIn as outs env) := by
  classical
  obtain ⟨S, h1, h2, h3⟩ := s.slots
  have nd := nodupN_iff nd
  have sf := List.nodup_append.mp s.fr.1
  have fl := nodup_FL sf.1
  have hFL : ∀ a ∈ FL AA, Sh a = none ∧ ∃ o, H a = some o := fun a ha => s.fr.2 a (List.mem_append_left _ ha)
  have tl := r.tlen hts
  have ln := r.len
  let Fc := restOf S env (muts as) ++ F
  have rest_dis : ∀ i, i ∈ muts as → ∀ a ∈ S i, a ∉ restOf S env (muts as) := fun i hi a ha hr => by
    obtain ⟨j, t, q1, q2, q3⟩ := mem_rest.mp hr
    exact h3 i j (fun z => q1 (z ▸ hi)) a ha q3
  have ndFc : Fc.Nodup := List.nodup_append.mpr ⟨nodup_rest (fun i => (h2 i).1) h3, sf.2.1, fun a ha b hb e => by
    obtain ⟨j, t, q1, q2, q3⟩ := mem_rest.mp ha
    exact (h2 j).2 a q3 (List.mem_append_right _ (e ▸ hb))⟩
  have exS : ∀ i t, (env[i]?).bind id = some t → ∀ a ∈ S i, Sh a = none ∧ ∃ o, H a = some o := fun i t e => by
    obtain ⟨v, _, q⟩ := h1 i t e
    exact q.there
  -- the callee's slots
  let C : Nat → List Addr := fun j => match as[j]? with
    | some (.inl _) => (AA[j]?).getD []
    | some (.inr i) => if ((env[i]?).bind id).isSome then S i else []
    | none => []
  have C_mem : ∀ j a, a ∈ C j → (∃ t A, as[j]? = some (.inl t) ∧ AA[j]? = some A ∧ a ∈ A) ∨ ∃ i, as[j]? = some (.inr i) ∧ a ∈ S i := fun j a ha => by
    dsimp only [C] at ha
    split at ha
    · rename_i t e
      cases q : AA[j]? with
      | none => rw [q] at ha; simp at ha
      | some A => rw [q] at ha; exact .inl ⟨t, A, e, rfl, ha⟩
    · rename_i i e
      split at ha
      · exact .inr ⟨i, e, ha⟩
      · simp at ha
    · simp at ha
  have sc : SR Z Sh Fc [] (vs.map some) H (ts.map some) := by
    refine ⟨by rw [List.length_map, List.length_map, tl, ln.1], s.sub, ⟨C, fun j t e => ?_, fun j => ⟨?_, fun a ha hf => ?_⟩, fun j l hjl a ha hb => ?_⟩, ⟨ndFc, fun a ha => ?_⟩, fun p hp => by simp at hp⟩
    · rw [List.getElem?_map] at e
      have e1 : ts[j]? = some t := by
        cases q : ts[j]? with
        | none => rw [q] at e; cases e
        | some w => rw [q] at e; cases e; rfl
      rcases r.at hts j t e1 with ⟨v, A, q1, q2, q3, q4⟩ | ⟨i, v, q1, q2, q3, q4⟩
      · refine ⟨v, by rw [List.getElem?_map, q2]; rfl, ?_⟩
        dsimp only [C]
        rw [q1, q3]
        exact q4
      · refine ⟨v, by rw [List.getElem?_map, q2]; rfl, ?_⟩
        obtain ⟨w, e3, q⟩ := h1 i t q4
        rw [q3] at e3; cases e3
        dsimp only [C]
        rw [q1]
        simp only [q4, Option.isSome_some, if_true]
        exact q
    · dsimp only [C]
      split
      · cases q : AA[j]? with
        | none => simp
        | some A => exact fl.1 j A q
      · split
        · exact (h2 _).1
        · simp
      · simp
    · rcases C_mem j a ha with ⟨t, A, q1, q2, q3⟩ | ⟨i, q1, q2⟩
      · have hm : a ∈ FL AA := mem_FL.mpr ⟨A, List.mem_of_getElem? q2, q3⟩
        rcases List.mem_append.mp hf with hf | hf
        · obtain ⟨k, u, z1, z2, z3⟩ := mem_rest.mp hf
          exact (h2 k).2 a z3 (List.mem_append_left _ hm)
        · exact sf.2.2 a hm a hf rfl
      · rcases List.mem_append.mp hf with hf | hf
        · exact rest_dis i (mem_muts.mpr ⟨j, q1⟩) a q2 hf
        · exact (h2 i).2 a q2 (List.mem_append_right _ hf)
    · rcases C_mem j a ha with ⟨t, A, q1, q2, q3⟩ | ⟨i, q1, q2⟩
      · rcases C_mem l a hb with ⟨u, B, z1, z2, z3⟩ | ⟨k, z1, z2⟩
        · exact fl.2 j l A B hjl q2 z2 a q3 z3
        · exact (h2 k).2 a z2 (List.mem_append_left _ (mem_FL.mpr ⟨A, List.mem_of_getElem? q2, q3⟩))
      · rcases C_mem l a hb with ⟨u, B, z1, z2, z3⟩ | ⟨k, z1, z2⟩
        · exact (h2 i).2 a q2 (List.mem_append_left _ (mem_FL.mpr ⟨B, List.mem_of_getElem? z2, z3⟩))
        · by_cases z : i = k
          · subst z; exact hjl (muts_inj nd q1 z1)
          · exact h3 i k z a q2 z2
    · rcases List.mem_append.mp ha with ha | ha
      · obtain ⟨k, u, z1, z2, z3⟩ := mem_rest.mp ha
        exact exS k u z2 a z3
      · exact s.fr.2 a (List.mem_append_right _ ha)
  refine ⟨Fc, sc, fun a ha => List.mem_append_right _ ha, fun Sh' H' A outs so af => ?_⟩
  -- behind the call
  obtain ⟨D, g1, g2, g3⟩ := so.slots
  have lo : outs.length = as.length := by rw [← so.len, List.length_map]; exact ln.1
  have so_nd := List.nodup_append.mp so.fr.1
  have shN : ∀ a ∈ Fc, Sh' a = none := fun a ha => (so.fr.2 a (List.mem_append_right _ ha)).1
  -- for each slot: its places now
  let E : Nat → List Addr := fun i => if ((outsIn as outs env)[i]?).bind id = none then [] else match (List.range as.length).find? (fun j => decide (as[j]? = some (.inr i))) with
    | some j => D j
    | none => S i
  have fnd : ∀ i j, as[j]? = some (.inr i) → (List.range as.length).find? (fun j => decide (as[j]? = some (.inr i))) = some j := fun i j e => by
    cases q : (List.range as.length).find? (fun j => decide (as[j]? = some (.inr i))) with
    | none =>
      have := List.find?_eq_none.mp q j (List.mem_range.mpr (List.getElem?_eq_some_iff.mp e).1)
      simp [e] at this
    | some k =>
      have := List.find?_some q
      simp only [decide_eq_true_eq] at this
      rw [muts_inj nd e this]
  have fnd0 : ∀ i, i ∉ muts as → (List.range as.length).find? (fun j => decide (as[j]? = some (.inr i))) = none := fun i hi => by
    rw [List.find?_eq_none]
    intro j _ hj
    simp only [decide_eq_true_eq] at hj
    exact hi (mem_muts.mpr ⟨j, hj⟩)
  have lt_of : ∀ {e : Env} {i : Nat} {t : T}, (e[i]?).bind id = some t → i < e.length := fun {e i t} h => by
    by_cases z : i < e.length
    · exact z
    · rw [List.getElem?_eq_none (by omega)] at h; cases h
  -- what stands in a slot
  have slot : ∀ i t, ((outsIn as outs env)[i]?).bind id = some t → (i ∉ muts as ∧ (env[i]?).bind id = some t ∧ E i = S i) ∨ ∃ j : Nat, as[j]? = some (.inr i) ∧ (outs[j]?).bind id = some t ∧ E i = D j := fun i t e => by
    have hi : i < env.length := by have := lt_of e; rwa [outsIn_len] at this
    have en : ¬ ((outsIn as outs env)[i]?).bind id = none := by rw [e]; simp
    rcases outsIn_get as outs env i nd lo hi with ⟨q1, q2⟩ | ⟨j, q1, q2⟩
    · refine .inl ⟨q1, by rw [← q2]; exact e, ?_⟩
      dsimp only [E]
      rw [if_neg en, fnd0 i q1]
    · refine .inr ⟨j, q1, by rw [← q2]; exact e, ?_⟩
      dsimp only [E]
      rw [if_neg en, fnd i j q1]
  have E0 : ∀ i, ((outsIn as outs env)[i]?).bind id = none → E i = [] := fun i h => by dsimp only [E]; rw [if_pos h]
  have inFc : ∀ i t, i ∉ muts as → (env[i]?).bind id = some t → ∀ a ∈ S i, a ∈ Fc := fun i t h e a ha => List.mem_append_left _ (mem_rest.mpr ⟨i, t, h, e, ha⟩)
  refine ⟨by rw [outsIn_len]; exact s.len, so.sub, ⟨E, fun i t e => ?_, fun i => ?_, fun i k hik a ha hb => ?_⟩, ⟨?_, fun a ha => ?_⟩, s.ms⟩
  · rcases slot i t e with ⟨q1, q2, q3⟩ | ⟨j, q1, q2, q3⟩
    · obtain ⟨v, e1, q⟩ := h1 i t q2
      rw [q3]
      refine ⟨v, e1, q.mono af.grow fun a ha => ?_⟩
      have := inFc i t q1 q2 a ha
      exact ⟨af.keep a this, shN a this⟩
    · obtain ⟨v, e1, q⟩ := g1 j t q2
      rw [q3]
      have hj : j < vs.length := by
        have := lt_of q2; rw [lo, ← ln.1] at this; exact this
      have e1' : vs[j]? = some v := by
        rw [List.getElem?_map] at e1
        cases z : vs[j]? with
        | none => rw [z] at e1; cases e1
        | some w => rw [z] at e1; cases e1; rfl
      have hjt : j < ts.length := by rw [tl, ← ln.1]; exact hj
      rcases r.at hts j ts[j] (List.getElem?_eq_getElem hjt) with ⟨w, B, z1, _⟩ | ⟨k, w, z1, z2, z3, _⟩
      · rw [q1] at z1; cases z1
      · rw [q1] at z1; cases z1
        rw [e1'] at z2; cases z2
        exact ⟨v, z3, q⟩
  · cases e : ((outsIn as outs env)[i]?).bind id with
    | none => rw [E0 i e]; simp
    | some t =>
      rcases slot i t e with ⟨q1, q2, q3⟩ | ⟨j, q1, q2, q3⟩
      · rw [q3]
        refine ⟨(h2 i).1, fun a ha hf => ?_⟩
        rcases List.mem_append.mp hf with hf | hf
        · exact so_nd.2.2 a hf a (inFc i t q1 q2 a ha) rfl
        · exact (h2 i).2 a ha (List.mem_append_right _ hf)
      · rw [q3]
        refine ⟨(g2 j).1, fun a ha hf => (g2 j).2 a ha ?_⟩
        rcases List.mem_append.mp hf with hf | hf
        · exact List.mem_append_left _ hf
        · exact List.mem_append_right _ (List.mem_append_right _ hf)
  · cases e : ((outsIn as outs env)[i]?).bind id with
    | none => rw [E0 i e] at ha; simp at ha
    | some t =>
      cases e2 : ((outsIn as outs env)[k]?).bind id with
      | none => rw [E0 k e2] at hb; simp at hb
      | some u =>
        rcases slot i t e with ⟨q1, q2, q3⟩ | ⟨j, q1, q2, q3⟩
        · rw [q3] at ha
          rcases slot k u e2 with ⟨z1, z2, z3⟩ | ⟨l, z1, z2, z3⟩
          · rw [z3] at hb; exact h3 i k hik a ha hb
          · rw [z3] at hb
            exact (g2 l).2 a hb (List.mem_append_right _ (inFc i t q1 q2 a ha))
        · rw [q3] at ha
          rcases slot k u e2 with ⟨z1, z2, z3⟩ | ⟨l, z1, z2, z3⟩
          · rw [z3] at hb
            exact (g2 j).2 a ha (List.mem_append_right _ (inFc k u z1 z2 a hb))
          · rw [z3] at hb
            refine g3 j l (fun z => ?_) a ha hb
            subst z
            rw [q1] at z1; cases z1
            exact hik rfl
  · refine List.nodup_append.mpr ⟨so_nd.1, sf.2.1, fun a ha b hb e => so_nd.2.2 a ha b (List.mem_append_right _ hb) e⟩
  · rcases List.mem_append.mp ha with ha | ha
    · exact so.fr.2 a (List.mem_append_left _ ha)
    · exact so.fr.2 a (List.mem_append_right _ (List.mem_append_right _ ha))
end
end Vi

set_option autoImplicit false
set_option Elab.async false
set_option linter.all false
set_option maxRecDepth 100000
/-! VI: arguments, calls. -/
namespace Vi
open PySem PySem.Spec PyProof.Rows L2
/-- what a def promises -/
def spV (Z : Rw) (np : Nat) (fc : List T → CR) : Sp := fun vs H Q E => vs.length = np ∧ ∃ Sh F ts, SR Z Sh F [] (vs.map some) H (ts.map some) ∧ match fc ts with
  | .no => False
  | .ret t outs => ∀ v H' Sh' A, SR Z Sh' (A ++ F) [] (vs.map some) H' outs → Rep Z Sh' H' v t A → Aft Sh F H Sh' H' → Q v H'
  | .ex _ _ _ => False
section
variable {X : Cx} {c : Cfg} {xp : Xp (zx X)} {e : E} {a b d : Expr} {pos : Pos} {as : As} {xs : List Expr}
/-- arguments -/
def rG (Z : Rw) (xp : Xp Z) (m : M (List (T ⊕ Nat))) : TA := fun σ H Q => ∃ Sh F ms env, SR Z Sh F ms σ H env ∧
  Out (m env) (fun as env' => ∀ vs H' Sh' AA, SR Z Sh' (FL AA ++ F) ms σ H' env' → ArgsRel Z σ Sh' H' vs as AA → Aft Sh F H Sh' H' → Q vs H') (xp.p Sh F ms H)
theorem ga_nil : PA X [] (rG (zx X) xp (eva c .nil)) := paI pa_nil fun σ H Q ⟨Sh, F, ms, env, sr, out⟩ => (show Out (R.ok [] env) _ _ from out) [] H Sh [] sr .nil Aft.refl
theorem ga_val (h : SE X c xp e a) (hr : PA X xs (rG (zx X) xp (eva c as))) (hs : notStar a = true) : PA X (a :: xs) (rG (zx X) xp (eva c (.val e as))) :=
  paI (pa_cons (pe_frzS h) hr (star_of hs)) fun σ H Q ⟨Sh, F, ms, env, sr, out⟩ => by
    have out : Out ((strong (isRd e) (ev c e) env).bind fun t e => (eva c as e).bind fun l e => R.ok (.inl (fz t) :: l) e) _ _ := out
    refine ⟨Sh, F, ms, env, sr, out.bind.imp (fun t e1 h1 v H1 Sh1 s1 r1 a1 => ?_) fun _ _ _ x => x⟩
    refine ⟨Sh1, F, ms, e1, s1, h1.bind.imp (fun l e2 h2 vs H2 Sh2 AA s2 r2 a2 => ?_) fun _ _ _ x => xp.mono [] a1 x⟩
    exact (show ∀ vs H' Sh' AA, _ from h2) (v :: vs) H2 Sh2 ([] :: AA) (by rw [FL, List.append_nil]; exact s2) (.val (.sh (r1.mono a2.grow)) r2) (a1.trans a2)
theorem ga_tmp (h : SE X c xp e a) (hr : PA X xs (rG (zx X) xp (eva c as))) (hs : notStar a = true) : PA X (a :: xs) (rG (zx X) xp (eva c (.tmp e as))) :=
  paI (pa_cons (pe_strong h) hr (star_of hs)) fun σ H Q ⟨Sh, F, ms, env, sr, out⟩ => by
    have out : Out ((strong (isRd e) (ev c e) env).bind fun t e => (eva c as e).bind fun l e => R.ok (.inl t :: l) e) _ _ := out
    refine ⟨Sh, F, ms, env, sr, out.bind.imp (fun t e1 h1 v H1 Sh1 A s1 r1 a1 => ?_) fun _ _ _ x => x⟩
    refine ⟨Sh1, A ++ F, ms, e1, s1, h1.bind.imp (fun l e2 h2 vs H2 Sh2 AA s2 r2 a2 => ?_) fun _ _ _ x => xp.mono A a1 x⟩
    refine (show ∀ vs H' Sh' AA, _ from h2) (v :: vs) H2 Sh2 (A :: AA) (by rw [FL, List.append_assoc]; exact s2) (.val (r1.stay a2 (fun x hx => List.mem_append_left _ hx) fun x hx => ?_) r2) (a1.trans (a2.less fun x hx => List.mem_append_right _ hx))
    exact (s2.fr.2 x (List.mem_append_right _ hx)).1
theorem ga_mut {i : Nat} (h : PE X a (tVar i)) (hr : PA X xs (rG (zx X) xp (eva c as))) (hs : notStar a = true) : PA X (a :: xs) (rG (zx X) xp (eva c (.mut i as))) :=
  paI (pa_cons h hr (star_of hs)) fun σ H Q ⟨Sh, F, ms, env, sr, out⟩ => by
    have out : Out (match (env[i]?).bind id with
      | some _ => (eva c as env).bind fun l e => R.ok (.inr i :: l) e
      | none => R.no) _ _ := out
    cases q : (env[i]?).bind id with
    | none => rw [q] at out; exact out.elim
    | some t =>
      rw [q] at out
      obtain ⟨v, A, e1, _⟩ := sr.get q
      refine ⟨v, e1, Sh, F, ms, env, sr, (show Out ((eva c as env).bind _) _ _ from out).bind.imp (fun l e2 h2 vs H2 Sh2 AA s2 r2 a2 => ?_) fun _ _ _ x => x⟩
      exact (show ∀ vs H' Sh' AA, _ from h2) (v :: vs) H2 Sh2 ([] :: AA) (by rw [FL, List.append_nil]; exact s2) (.mu e1 r2) a2
/-- a def that may be called -/
structure Callee (X : Cx) (c : Cfg) (f : Nat) (x : Str) where
  CX : CXT
  k : Nat
  fa : Addr
  fd : FuncData
  ps : List Str
  np : Nat
  fn : FnOk X.prog X.w X.K X.mg X.base CX k fa fd ps (spV (zx X) np (c.call f))
  len : ∀ ts, c.call f ts ≠ .no → ts.length = np
  room : Room k X.A
  hg : Gl X x
  hm : X.mg x = some (.ref fa)
  hk : PySem.W.keepIn X.K (.ref fa) = true
  hb : Binds X.K fd ps []
  hx : Passes CX X (fun _ _ _ => False)
  hdb : (x == ("__debug__" : Str)) = false
theorem call_imp {f : Nat} {x : Str} (C : Callee X c f x) (hex : ∀ Sh F ms H k d e, ¬ xp.p Sh F ms H k d e) : ∀ σ H Q, rS (zx X) xp (ev c (.call f as)) σ H Q → tCall (spV (zx X) C.np (c.call f)) [] (fun _ _ _ => False) (rG (zx X) xp (eva c as)) σ H Q := fun σ H Q ⟨Sh, F, ms, env, sr, out⟩ => by
  have out : Out ((eva c as env).bind fun l e => callM c f l e) _ _ := out
  refine ⟨Sh, F, ms, env, sr, out.bind.imp (fun l e1 h1 vs H1 Sh1 AA s1 r1 a1 => ?_) fun _ _ _ x => x⟩
  unfold callM at h1
  split at h1
  · rename_i ts hts
    split at h1
    · rename_i nd
      obtain ⟨Fc, sc, hF, back⟩ := call_in s1 r1 hts nd
      have hlen : ts.length = vs.length := by rw [r1.tlen hts, r1.len.1]
      refine ⟨?_, Sh1, Fc, ts, by rw [List.append_nil]; exact sc, ?_⟩
      · rw [List.append_nil, ← hlen]
        refine C.len ts fun z => ?_
        rw [z] at h1; exact h1
      · rw [List.append_nil]
        cases q : c.call f ts with
        | no => rw [q] at h1; exact h1
        | ex k d o => rw [q] at h1; exact (hex _ _ _ _ _ _ _ h1).elim
        | ret t outs =>
          rw [q] at h1
          exact fun v H2 Sh2 A s2 r2 a2 => (show ∀ v H' Sh' A, _ from h1) v H2 Sh2 A (back Sh2 H2 A outs s2 a2) r2 (a1.trans (a2.less hF))
    · exact h1.elim
  · exact h1.elim
theorem se_call {f : Nat} {x : Str} {p : Pos} (C : Callee X c f x) (hex : ∀ Sh F ms H k d e, ¬ xp.p Sh F ms H k d e) (h : PA X (a :: xs) (rG (zx X) xp (eva c as))) (hs : starEach (a :: xs) X.env = (false, eval a X.env) :: starEach xs X.env) (hp : ((backTo pos (starEach xs X.env)).any (·.1)) = false) :
    SE X c xp (.call f as) (.Call (.Name x p) (a :: xs) [] pos) :=
  .plain rfl (peI (pe_call C.fn C.room C.hg C.hm C.hk C.hb .nil C.hx h C.hdb hs hp) (call_imp C hex)) (fun _ => rfl)
theorem se_call0 {f : Nat} {x : Str} {p : Pos} (C : Callee X c f x) (hex : ∀ Sh F ms H k d e, ¬ xp.p Sh F ms H k d e) : SE X c xp (.call f .nil) (.Call (.Name x p) [] [] pos) :=
  .plain rfl (peI (pe_call0 C.fn C.room C.hg C.hm C.hk C.hb .nil C.hx C.hdb) fun σ H Q h => by
    obtain ⟨Sh, F, ms, env, sr, out⟩ := call_imp (as := .nil) C hex σ H Q h
    exact (show Out (R.ok [] env) _ _ from out) [] H Sh [] sr .nil Aft.refl) (fun _ => rfl)
end
end Vi

set_option autoImplicit false
set_option Elab.async false
set_option linter.all false
set_option maxRecDepth 100000
/-! VI: what is walked. -/
namespace Vi
open PySem PySem.Spec PyProof.Rows L2
section
variable {X : Cx} {tg : Expr}
/-- an iterator by the value -/
def IterR (X : Cx) (tg : Expr) (r : V → Hp → (L2.It → Hp → Prop) → Prop) : Prop := ∀ (pins : List (Addr × Obj)) (s : Shared) (σ : L2.St) (H : Hp) (x : V) (v : Value) (R : L2.It → Hp → Prop), Inv X pins σ H s → RelV x v → r x H R →
  wpAny (model X.prog X.w) X.A (pyIter v) (PIE X pins σ tg R) X.xe s
theorem IterR.or {r r' : V → Hp → (L2.It → Hp → Prop) → Prop} (h : IterR X tg r) (h' : IterR X tg r') : IterR X tg (fun x H R => r x H R ∨ r' x H R) := fun pins s σ H x v R I rx q => by
  rcases q with q | q
  · exact h pins s σ H x v R I rx q
  · exact h' pins s σ H x v R I rx q
theorem pi_of {e : Expr} {te : TE} {r : V → Hp → (L2.It → Hp → Prop) → Prop} (hr : IterR X tg r) (h : PE X e te) : PI X tg e (fun σ H R => te σ H fun x H1 => r x H1 R) :=
  ⟨fun pins s σ H R I q => thn (h.run pins s σ H _ I q) fun v s1 ⟨x, H1, I1, r1, q1⟩ => hr pins s1 σ H1 x v R I1 r1 q1⟩
theorem ir_list : IterR X tg (fun x H R => ∃ a, x = .ref a ∧ (∃ xs, SqL X.K H a xs) ∧ R (Itl X.K a) H) := fun pins s σ H x v R I rx ⟨a, e, ⟨xs, hq⟩, q⟩ => by
  subst e
  cases rx
  obtain ⟨its, rv, p, hz⟩ := I.list hq
  refine wpAny_pyIter_list p.isList ?_
  refine ⟨s.heap.objs.size, [s.heap.objs.size], _, _, H, rfl, I.kept (t' := s.toks) fun b o e => Heap.get?_push_of_some _ e, turn_list a _, ⟨_, Heap.get?_push_size _ rfl, rfl, rfl⟩, fun b hb => ?_, q⟩
  have e : b = s.heap.objs.size := by simpa using hb
  subst e
  exact I.fpOk (Nat.le_refl _) (I.hok.fresh (Nat.le_refl _))
theorem ir_tup : IterR X tg (fun x H R => ∃ a, x = .ref a ∧ (∃ xs, SqT X.K H a xs) ∧ R (Itt X.K a) H) := fun pins s σ H x v R I rx ⟨a, e, ⟨xs, hq⟩, q⟩ => by
  subst e
  cases rx
  obtain ⟨its, rv, p, hz⟩ := I.tuple hq
  refine wpAny_pyIter_tuple (show s.heap.IsTuple a its.toArray from p) ?_
  refine ⟨s.heap.objs.size, [s.heap.objs.size], _, _, H, rfl, I.kept (t' := s.toks) fun b o e => Heap.get?_push_of_some _ e, turn_tuple a _, ⟨_, Heap.get?_push_size _ rfl, rfl, rfl⟩, fun b hb => ?_, q⟩
  have e : b = s.heap.objs.size := by simpa using hb
  subst e
  exact I.fpOk (Nat.le_refl _) (I.hok.fresh (Nat.le_refl _))
theorem ir_str : IterR X tg (fun x H R => ∃ z, x = .str z ∧ R (Its z) H) := fun pins s σ H x v R I rx ⟨z, e, q⟩ => by
  subst e
  obtain ⟨t, rfl⟩ := rx
  cases ha : z.cps.all (· < 128)
  · exact wpAny_pyIter_wide ha (pi_one (tk := s.toks) I _ (turn_str _ z t "str_iterator" (.inr rfl)) ⟨_, Heap.get?_push_size _ rfl, rfl, rfl⟩ q)
  · exact wpAny_pyIter_ascii ha (pi_one (tk := s.toks) I _ (turn_str _ z t "str_ascii_iterator" (.inl rfl)) ⟨_, Heap.get?_push_size _ rfl, rfl, rfl⟩ q)
/-- J walks l -/
structure Wk (Z : Rw) (Sh : Hp) (J : L2.It) (l : List T) : Prop where
  stop : ∀ (i : Nat) (Sh2 H2 : Hp), Grow Sh Sh2 → Grow Sh2 H2 → l.length ≤ i → J.stop i H2
  go : ∀ (i : Nat) (Sh2 H2 : Hp), Grow Sh Sh2 → Grow Sh2 H2 → i < l.length → J.go i H2
  yld : ∀ (i : Nat) (Sh2 H2 : Hp) (x : V) (H3 : Hp) (F : List Addr) (ms : List (Nat × V)) (σ : L2.St) (env : Env) (t : T), Grow Sh Sh2 → SR Z Sh2 F ms σ H2 env → J.yld i H2 x H3 → l[i]? = some t →
    ∃ Sh3, SR Z Sh3 F ms σ H3 env ∧ Aft Sh2 F H2 Sh3 H3 ∧ Rp Z Sh3 x t
variable {Z : Rw} {Sh H : Hp}
theorem wk_list {a : Addr} {vs : List V} {l : List T} (h : SqL Z.K Sh a vs) (r : RpL Z Sh vs l) : Wk Z Sh (Itl Z.K a) l where
  stop := fun i Sh2 H2 g1 g2 hi => ⟨vs, Grow.sqLL g2 (Grow.sqLL g1 h), by rw [r.1]; exact hi⟩
  go := fun i Sh2 H2 g1 g2 hi => ⟨vs, vs[i]'(by rw [r.1]; exact hi), Grow.sqLL g2 (Grow.sqLL g1 h), List.getElem?_eq_getElem _⟩
  yld := fun i Sh2 H2 x H3 F ms σ env t g s ⟨e, hx⟩ ht => by
    subst e
    have := hx vs (s.sqL (Grow.sqLL g h))
    exact ⟨Sh2, s, Aft.refl, (r.2 i x t this ht).mono g⟩
theorem wk_tup {a : Addr} {vs : List V} {l : List T} (h : SqT Z.K Sh a vs) (r : RpL Z Sh vs l) : Wk Z Sh (Itt Z.K a) l where
  stop := fun i Sh2 H2 g1 g2 hi => ⟨vs, g2.sqT (g1.sqT h), by rw [r.1]; exact hi⟩
  go := fun i Sh2 H2 g1 g2 hi => ⟨vs, vs[i]'(by rw [r.1]; exact hi), g2.sqT (g1.sqT h), List.getElem?_eq_getElem _⟩
  yld := fun i Sh2 H2 x H3 F ms σ env t g s ⟨e, hx⟩ ht => by
    subst e
    have := hx vs (s.sqT (g.sqT h))
    exact ⟨Sh2, s, Aft.refl, (r.2 i x t this ht).mono g⟩
theorem wk_str {z : List Nat} (o : okS z) : Wk Z Sh (Its (sOf z)) (z.map fun c => .str [c]) where
  stop := fun i Sh2 H2 g1 g2 hi => by show (sOf z).cps.size ≤ i; simpa [sOf] using hi
  go := fun i Sh2 H2 g1 g2 hi => by show i < (sOf z).cps.size; simpa [sOf] using hi
  yld := fun i Sh2 H2 x H3 F ms σ env t g s ⟨e, c, hc, hx⟩ ht => by
    subst e
    rw [List.getElem?_map] at ht
    obtain ⟨d, hd, rfl⟩ := Option.map_eq_some_iff.mp ht
    have : c = d := by
      have h2 : (sOf z).cps[i]? = z[i]? := by simp [sOf]
      rw [h2, hd] at hc; cases hc; rfl
    subst this
    rw [hx]
    exact ⟨Sh2, s, Aft.refl, .str [c] (okS_one (o.2 c (List.mem_of_getElem? hd)))⟩
theorem wk_rng (a b : Int) : Wk Z Sh (Itr a (b - a).toNat) (upto a b) where
  stop := fun i Sh2 H2 g1 g2 hi => by show (b - a).toNat ≤ i; simpa [upto] using hi
  go := fun i Sh2 H2 g1 g2 hi => by show i < (b - a).toNat; simpa [upto] using hi
  yld := fun i Sh2 H2 x H3 F ms σ env t g s ⟨e, hx⟩ ht => by
    subst e
    unfold upto at ht
    rw [List.getElem?_map] at ht
    obtain ⟨d, hd, rfl⟩ := Option.map_eq_some_iff.mp ht
    have : d = i := by
      obtain ⟨h1, h2⟩ := List.getElem?_eq_some_iff.mp hd
      simpa using h2.symm
    subst this
    rw [hx]
    exact ⟨Sh2, s, Aft.refl, .int _⟩
/-- an iterator by its meaning -/
def rI (Z : Rw) (xp : Xp Z) (m : M (List T)) : TI := fun σ H R => ∃ Sh F ms env, SR Z Sh F ms σ H env ∧
  Out (m env) (fun l env' => ∀ J H' Sh', SR Z Sh' F ms σ H' env' → Wk Z Sh' J l → Aft Sh F H Sh' H' → R J H') (xp.p Sh F ms H)
theorem piI {e : Expr} {t t' : TI} (h : PI X tg e t) (w : ∀ σ H R, t' σ H R → t σ H R) : PI X tg e t' := ⟨fun pins s σ H R I q => h.run pins s σ H R I (w σ H R q)⟩
variable {c : Cfg} {xp : Xp (zx X)} {a b : Expr} {pos p : Pos} {ea eb : E}
theorem it_of (h : SE X c xp ea a) : PI X tg a (rI (zx X) xp (evi c (.of ea))) := piI (pi_of (IterR.or ir_list (IterR.or ir_tup ir_str)) (pe_frzS h)) fun σ H R ⟨Sh, F, ms, env, sr, out⟩ => by
  have out : Out ((strong (isRd ea) (ev c ea) env).bind fun t e => need (walk? (fz t)) e) _ _ := out
  refine ⟨Sh, F, ms, env, sr, out.bind.imp (fun t e1 h1 v H1 Sh1 s1 r1 a1 => ?_) fun _ _ _ x => x⟩
  obtain ⟨l, hl, q⟩ := out_need h1
  generalize fz t = u at hl r1
  cases r1 with
  | str z o => cases hl; exact .inr (.inr ⟨_, rfl, q _ H1 Sh1 s1 (wk_str o) a1⟩)
  | tup ht hlen hs => cases hl; exact .inr (.inl ⟨_, rfl, ⟨_, s1.sqT ht⟩, q _ H1 Sh1 s1 (wk_tup (Z := zx X) ht ⟨hlen, hs⟩) a1⟩)
  | lst ht hlen hs => cases hl; exact .inl ⟨_, rfl, ⟨_, s1.sqL ht⟩, q _ H1 Sh1 s1 (wk_list (Z := zx X) ht ⟨hlen, hs⟩) a1⟩
  | _ => cases hl
theorem small_of {i : Int} (h : small62 i = true) : -(2 ^ 62) ≤ i ∧ i < 2 ^ 62 := by
  unfold small62 at h
  rw [Bool.and_eq_true, decide_eq_true_eq, decide_eq_true_eq] at h
  omega
theorem it_rng (hg : Gl X "range") (hm : X.mg "range" = none) (h : SE X c xp ea a) (hs : notStar a = true) : PI X tg (.Call (.Name "range" p) [a] [] pos) (rI (zx X) xp (evi c (.rng ea))) :=
  piI (pi_range1 hg hm (pa_cons (pe_strong h) pa_nil (star_of hs)) (star_of hs)) fun σ H R ⟨Sh, F, ms, env, sr, out⟩ => by
    have out : Out ((strong (isRd ea) (ev c ea) env).bind fun t e => need (rngT (.int 0) t) e) _ _ := out
    refine ⟨Sh, F, ms, env, sr, out.bind.imp (fun t e1 h1 v H1 Sh1 A s1 r1 a1 => ?_) fun _ _ _ x => x⟩
    obtain ⟨l, hl, q⟩ := out_need h1
    cases t with
    | int j =>
      cases r1.intI
      have hl : (if (small62 0 && small62 j) = true then some (upto 0 j) else none) = some l := hl
      by_cases h2 : (small62 0 && small62 j) = true
      · rw [if_pos h2] at hl
        cases hl
        rw [Bool.and_eq_true] at h2
        have := small_of h2.2
        refine ⟨j, rfl, this.1, this.2, ?_⟩
        have w := wk_rng (Z := zx X) (Sh := Sh1) 0 j
        rw [show (j - 0).toNat = j.toNat by simp] at w
        exact q _ H1 Sh1 s1.less w a1
      · rw [if_neg h2] at hl; cases hl
    | _ => cases hl
theorem it_rng2 (hg : Gl X "range") (hm : X.mg "range" = none) (h : SE X c xp ea a) (h2 : SE X c xp eb b) (hs : notStar a = true) (hs2 : notStar b = true) : PI X tg (.Call (.Name "range" p) [a, b] [] pos) (rI (zx X) xp (evi c (.rng2 ea eb))) := by
  have e2 : starEach [b] X.env = [(false, eval b X.env)] := star_of hs2
  have e1 : starEach [a, b] X.env = [(false, eval a X.env), (false, eval b X.env)] := (star_of hs).trans (by rw [e2])
  refine piI (pi_range2 hg hm (pa_cons (pe_strong h) (pa_cons (pe_strong h2) pa_nil (star_of hs2)) (star_of hs)) e1 e2) fun σ H R ⟨Sh, F, ms, env, sr, out⟩ => ?_
  have out : Out ((strong (isRd ea) (ev c ea) env).bind fun t e => (strong (isRd eb) (ev c eb) e).bind fun u e => need (rngT t u) e) _ _ := out
  refine ⟨Sh, F, ms, env, sr, out.bind.imp (fun t e1 h1 v H1 Sh1 A s1 r1 a1 => ?_) fun _ _ _ x => x⟩
  refine ⟨Sh1, A ++ F, ms, e1, s1, h1.bind.imp (fun u e2 h3 w H2 Sh2 B s2 r2 a2 => ?_) fun _ _ _ x => xp.mono A a1 x⟩
  obtain ⟨l, hl, q⟩ := out_need h3
  cases t with
  | int i =>
    cases u with
    | int j =>
      have r1' := r1.stay a2 (fun x hx => List.mem_append_left _ hx) (fun x hx => (s2.fr.2 x (List.mem_append_right _ hx)).1)
      cases r1.intI
      cases r2.intI
      have hl : (if (small62 i && small62 j) = true then some (upto i j) else none) = some l := hl
      by_cases h4 : (small62 i && small62 j) = true
      · rw [if_pos h4] at hl
        cases hl
        rw [Bool.and_eq_true] at h4
        have h5 := small_of h4.1
        have h6 := small_of h4.2
        exact ⟨i, j, rfl, ⟨h5.1, h5.2, h6.1, h6.2⟩, q _ H2 Sh2 s2.less.less (wk_rng i j) (a1.trans (a2.less fun x hx => List.mem_append_right _ hx))⟩
      · rw [if_neg h4] at hl; cases hl
    | _ => cases hl
  | _ => cases u <;> cases hl
end
end Vi

set_option autoImplicit false
set_option Elab.async false
set_option linter.all false
set_option maxRecDepth 100000
/-! VI: targets. -/
namespace Vi
open PySem PySem.Spec PyProof.Rows L2
/-- alike but for some slots -/
def Same (ns : List Nat) (σ σ' : L2.St) : Prop := σ'.length = σ.length ∧ ∀ j, j ∉ ns → σ'[j]? = σ[j]?
theorem Same.refl {ns : List Nat} {σ : L2.St} : Same ns σ σ := ⟨rfl, fun _ _ => rfl⟩
theorem Same.trans {ns ms : List Nat} {σ σ1 σ2 : L2.St} (a : Same ns σ σ1) (b : Same ms σ1 σ2) : Same (ns ++ ms) σ σ2 := ⟨b.1.trans a.1, fun j h => (b.2 j fun z => h (List.mem_append_right _ z)).trans (a.2 j fun z => h (List.mem_append_left _ z))⟩
section
variable {X : Cx} {M : List Nat} {pos : Pos}
def rTg (Z : Rw) (M : List Nat) (tg : Tg) : TG := fun v σ H Q => ∃ Sh F ms env t, SR Z Sh F ms σ H env ∧ (∀ p ∈ ms, p.1 ∈ M) ∧ Rp Z Sh v t ∧
  Out (asg tg t env) (fun _ env' => ∀ σ', SR Z Sh F ms σ' H env' → Same (tgNames tg) σ σ' → Q σ' H) (fun _ _ _ => False)
def rTgs (Z : Rw) (M : List Nat) (ts : Tgs) : TGs := fun vs σ H Q => ∃ Sh F ms env l, SR Z Sh F ms σ H env ∧ (∀ p ∈ ms, p.1 ∈ M) ∧ RpL Z Sh vs l ∧
  Out (asgs ts l env) (fun _ env' => ∀ σ', SR Z Sh F ms σ' H env' → Same (tgsNames ts) σ σ' → Q σ' H) (fun _ _ _ => False)
theorem pgI {e : Expr} {t t' : TG} (h : PG X e t) (w : ∀ v σ H Q, t' v σ H Q → t v σ H Q) : PG X e t' := ⟨fun pins s σ H v u Q I r q => h.run pins s σ H v u Q I r (w v σ H Q q)⟩
theorem pgsI {e : List Expr} {t t' : TGs} (h : PGs X e t) (w : ∀ v σ H Q, t' v σ H Q → t v σ H Q) : PGs X e t' := ⟨fun pins s σ H v u Q I r q => h.run pins s σ H v u Q I r (w v σ H Q q)⟩
theorem tg_nm {i : Nat} {x : Str} (hN : X.N.Nodup) (hi : X.N[i]? = some x) (hx : Loc X.env.scope x) (hf : X.fn x = true ∨ X.env.scope.names.lookup x = some .local) (hM : i ∉ M) : PG X (.Name x pos) (rTg (zx X) M (.nm i)) :=
  pgI (pg_name hN hi hx hf) fun v σ H Q ⟨Sh, F, ms, env, t, s, hms, r, out⟩ => by
    have out : Out (setVar i t env) _ _ := out
    unfold setVar at out
    by_cases h : i < env.length
    · rw [if_pos h] at out
      have s' : SR (zx X) Sh F ms (σ.set i (some v)) H (env.set i (some t)) := SR.store (A := []) s (.sh r) h fun p hp z => hM (z ▸ hms p hp)
      exact (show ∀ σ', _ → _ → Q σ' H from out) _ s' ⟨List.length_set, fun j hj => List.getElem?_set_ne fun z => hj (by rw [← z]; exact List.mem_singleton_self _)⟩
    · rw [if_neg h] at out; exact out.elim
theorem tgs_nil : PGs X [] (rTgs (zx X) M .nil) := pgsI pgs_nil fun vs σ H Q ⟨Sh, F, ms, env, l, s, hms, r, out⟩ => by
  cases l with
  | nil => exact ⟨r.inv_nil, (show Out (R.ok () env) _ _ from out) σ s Same.refl⟩
  | cons _ _ => exact out.elim
theorem tgs_cons {t : Tg} {ts : Tgs} {e : Expr} {es : List Expr} (h1 : PG X e (rTg (zx X) M t)) (h2 : PGs X es (rTgs (zx X) M ts)) (hs : (assignEach (e :: es) X.env).map (·.2) = assign e X.env :: (assignEach es X.env).map (·.2)) : PGs X (e :: es) (rTgs (zx X) M (.cons t ts)) :=
  pgsI (pgs_cons h1 h2 hs) fun vs σ H Q ⟨Sh, F, ms, env, l, s, hms, r, out⟩ => by
    cases l with
    | nil => exact out.elim
    | cons a l =>
      obtain ⟨v, vr, rfl, r1, r2⟩ := r.inv_cons
      refine ⟨v, vr, rfl, Sh, F, ms, env, a, s, hms, r1, (show Out ((asg t a env).bind fun _ e => asgs ts l e) _ _ from out).bind.imp (fun _ e1 h σ1 s1 m1 => ?_) fun _ _ _ x => x⟩
      exact ⟨Sh, F, ms, e1, l, s1, hms, r2, h.imp (fun _ e2 q σ2 s2 m2 => q σ2 s2 (m1.trans m2)) fun _ _ _ x => x⟩
def tgsLen : Tgs → Nat
  | .nil => 0
  | .cons _ ts => tgsLen ts + 1
theorem asgs_len : ∀ {ts : Tgs} {l : List T} {env : Env} {P : Unit → Env → Prop} {Y : Nat → T → Env → Prop}, Out (asgs ts l env) P Y → ∀ n : Nat, tgsLen ts = n → (Y = fun _ _ _ => False) → l.length = n
  | .nil, [], _, _, _, _, n, h, _ => h
  | .nil, _ :: _, _, _, _, h, _, _, _ => h.elim
  | .cons _ _, [], _, _, _, h, _, _, _ => h.elim
  | .cons t ts, a :: l, env, P, Y, h, n, hn, hY => by
    have h : Out ((asg t a env).bind fun _ e => asgs ts l e) P Y := h
    subst hY
    cases q : asg t a env with
    | no => rw [q] at h; exact h.elim
    | ex k d e => rw [q] at h; exact h.elim
    | ok u e =>
      rw [q] at h
      have := asgs_len (ts := ts) (l := l) (show Out (asgs ts l e) P _ from h) (tgsLen ts) rfl rfl
      rw [← hn, List.length_cons, this]
      rfl
theorem tg_tp {ts : Tgs} {es : List Expr} {k : Nat} (hc : X.calm = true) (h : PGs X es (rTgs (zx X) M ts)) (hn : (assignEach es X.env).length = tgsLen ts) (hst : (assignEach es X.env).findIdx? (·.1) = none) : PG X (.Tuple es k pos) (rTg (zx X) M (.tp ts)) :=
  pgI (pg_tup hc h hn hst) fun v σ H Q ⟨Sh, F, ms, env, t, s, hms, r, out⟩ => by
    cases r with
    | @tup a vs l hq hl hs =>
      have out : Out (asgs ts l env) _ _ := out
      exact ⟨a, vs, rfl, s.sqT hq, by rw [hl]; exact asgs_len out _ rfl rfl, Sh, F, ms, env, l, s, hms, ⟨hl, hs⟩, out⟩
    | _ => exact out.elim
end
end Vi

set_option autoImplicit false
set_option Elab.async false
set_option linter.all false
set_option maxRecDepth 100000
/-! VI: comprehensions. -/
namespace Vi
open PySem PySem.Spec PyProof.Rows L2
/-! ### slots wiped and put back -/
theorem wipe_len (e : Env) : ∀ is : List Nat, (wipe e is).length = e.length
  | [] => rfl
  | i :: is => by rw [wipe, List.length_set, wipe_len e is]
theorem wipe_get {e : Env} {i : Nat} {t : T} : ∀ {is : List Nat}, ((wipe e is)[i]?).bind id = some t → (e[i]?).bind id = some t ∧ i ∉ is
  | [], h => ⟨h, by simp⟩
  | j :: is, h => by
    rw [wipe] at h
    by_cases z : j = i
    · subst z
      by_cases hl : j < (wipe e is).length
      · rw [List.getElem?_set_self hl] at h; cases h
      · rw [List.getElem?_eq_none (by rw [List.length_set]; omega)] at h; cases h
    · rw [List.getElem?_set_ne z] at h
      obtain ⟨h1, h2⟩ := wipe_get h
      exact ⟨h1, by rw [List.mem_cons]; rintro (y | y); exact z y.symm; exact h2 y⟩
theorem back_len (e0 e : Env) : ∀ is : List Nat, (back e0 e is).length = e.length
  | [] => rfl
  | i :: is => by rw [back, List.length_set, back_len e0 e is]
theorem back_get {e0 e : Env} {i : Nat} {t : T} : ∀ {is : List Nat}, ((back e0 e is)[i]?).bind id = some t → (i ∉ is ∧ (e[i]?).bind id = some t) ∨ (i ∈ is ∧ (e0[i]?).bind id = some t)
  | [], h => .inl ⟨by simp, h⟩
  | j :: is, h => by
    rw [back] at h
    by_cases z : j = i
    · subst z
      by_cases hl : j < (back e0 e is).length
      · rw [List.getElem?_set_self hl] at h
        exact .inr ⟨List.mem_cons_self, h⟩
      · rw [List.getElem?_eq_none (by rw [List.length_set]; omega)] at h; cases h
    · rw [List.getElem?_set_ne z] at h
      rcases back_get h with ⟨h1, h2⟩ | ⟨h1, h2⟩
      · exact .inl ⟨by rw [List.mem_cons]; rintro (y | y); exact z y.symm; exact h1 y, h2⟩
      · exact .inr ⟨List.mem_cons_of_mem _ h1, h2⟩
section
variable {Z : Rw} {Sh Sh' H H' : Hp} {F F' : List Addr} {ms : List (Nat × V)} {σ σ2 : L2.St} {env e0 e : Env} {own : List Nat}
theorem SR.wiped (s : SR Z Sh F ms σ H env) (own : List Nat) : SR Z Sh F [] (L2.wipe σ own) H (wipe env own) := by
  obtain ⟨S, h1, h2, h3⟩ := s.slots
  refine ⟨by rw [wipe_length, wipe_len]; exact s.len, s.sub, ⟨S, fun i t e => ?_, h2, h3⟩, s.fr, fun p hp => by simp at hp⟩
  obtain ⟨q1, q2⟩ := wipe_get e
  obtain ⟨v, e1, r⟩ := h1 i t q1
  exact ⟨v, by rw [wipe_out q2]; exact e1, r⟩
/-- the state behind a block -/
theorem SR.backTo (s0 : SR Z Sh F ms σ H e0) (s2 : SR Z Sh' F' [] σ2 H' e) (g : Grow Sh Sh') (hw : L2.wipe σ2 own = L2.wipe σ own) (hp : plainAt e0 own = true) : SR Z Sh' F' ms σ H' (back e0 e own) := by
  obtain ⟨S, h1, h2, h3⟩ := s2.slots
  obtain ⟨S0, g1, _, _⟩ := s0.slots
  have hl : σ2.length = σ.length := by have := congrArg List.length hw; rwa [wipe_length, wipe_length] at this
  refine ⟨by rw [back_len, ← s2.len]; exact hl.symm, s2.sub, ⟨fun i => if i ∈ own then [] else S i, fun i t q => ?_, fun i => ?_, fun i j hij a ha hb => ?_⟩, s2.fr, s0.ms⟩
  · rcases back_get q with ⟨q1, q2⟩ | ⟨q1, q2⟩
    · obtain ⟨v, e1, r⟩ := h1 i t q2
      refine ⟨v, ?_, by simp only [if_neg q1]; exact r⟩
      rw [← wipe_out (σ := σ) q1, ← hw, wipe_out q1]
      exact e1
    · obtain ⟨v, e1, r⟩ := g1 i t q2
      refine ⟨v, e1, ?_⟩
      simp only [if_pos q1]
      have ho : own ≠ [] := fun z => by rw [z] at q1; simp at q1
      have : (match (e0[i]?).bind id with | some t => !Vi.own t | none => true) = true := List.all_eq_true.mp hp i q1
      rw [q2] at this
      have hn : Vi.own t = false := by simpa using this
      exact .sh ((r.shared hn).1.mono g)
  · dsimp only
    split
    · simp
    · exact h2 i
  · dsimp only at ha hb
    split at ha
    · simp at ha
    · split at hb
      · simp at hb
      · exact h3 i j hij a ha hb
theorem wipe_idem : ∀ {σ σ' : L2.St} {own : List Nat}, σ'.length = σ.length → (∀ j, j ∉ own → σ'[j]? = σ[j]?) → L2.wipe σ' own = L2.wipe σ own := fun {σ σ' own} hl h => by
  have get : ∀ (τ : L2.St) (is : List Nat) (j : Nat), (L2.wipe τ is)[j]? = if j ∈ is then (if j < τ.length then some none else none) else τ[j]? := by
    intro τ is j
    induction is with
    | nil => simp [L2.wipe]
    | cons i is ih =>
      rw [L2.wipe]
      by_cases z : i = j
      · subst z
        rw [if_pos List.mem_cons_self]
        by_cases hlt : i < τ.length
        · rw [List.getElem?_set_self (by rw [wipe_length]; exact hlt), if_pos hlt]
        · rw [List.getElem?_eq_none (by rw [List.length_set, wipe_length]; omega), if_neg hlt]
      · rw [List.getElem?_set_ne z, ih]
        by_cases y : j ∈ is
        · rw [if_pos y, if_pos (List.mem_cons_of_mem _ y)]
        · rw [if_neg y, if_neg (by rw [List.mem_cons]; rintro (x | x); exact z x.symm; exact y x)]
  apply List.ext_getElem?
  intro j
  rw [get, get, hl]
  by_cases y : j ∈ own
  · rw [if_pos y, if_pos y]
  · rw [if_neg y, if_neg y, h j y]
theorem wipe_twice {σ : L2.St} {own : List Nat} : L2.wipe (L2.wipe σ own) own = L2.wipe σ own := wipe_idem (wipe_length _ _) fun j h => wipe_out h
end
/-! ### tests -/
section
variable {X : Cx} {c : Cfg} {xp : Xp (zx X)} {a : Expr} {ea : E}
def rTt (Z : Rw) (xp : Xp Z) (m : M Bool) : TT := fun σ H Q => ∃ Sh F ms env, SR Z Sh F ms σ H env ∧
  Out (m env) (fun b env' => ∀ H' Sh', SR Z Sh' F ms σ H' env' → Aft Sh F H Sh' H' → Q b H') (xp.p Sh F ms H)
theorem ptsI {es : List Expr} {t t' : TT} (h : PTs X es t) (w : ∀ σ H Q, t' σ H Q → t σ H Q) : PTs X es t' := ⟨fun pins s σ H Q I q => h.run pins s σ H Q I (w σ H Q q)⟩
theorem tt_nil : PTs X [] (rTt (zx X) xp (evT c .nil)) := ptsI pts_nil fun σ H Q ⟨Sh, F, ms, env, s, out⟩ => (show Out (R.ok true env) _ _ from out) H Sh s Aft.refl
theorem tt_one (h : SE X c xp ea a) : PTs X [a] (rTt (zx X) xp (evT c (.cons ea .nil))) := ptsI (pts_one h.t) fun σ H Q ⟨Sh, F, ms, env, s, out⟩ => by
  have out : Out ((opd (isRd ea) (ev c ea) env).bind fun o e => (fin1 o (fun t => (tru t).map .bl) e).bind fun t e => match t with
    | .bl true => evT c .nil e
    | .bl false => .ok false e
    | _ => .no) _ _ := out
  have o2 := testM_of (nq := opd (isRd ea) (ev c ea)) (k := fun t e => match t with
    | .bl true => evT c .nil e
    | .bl false => .ok false e
    | _ => .no) out
  refine ⟨Sh, F, ms, env, s, o2.imp (fun b e1 h1 H1 Sh1 s1 a1 => ?_) fun _ _ _ x => x⟩
  cases b with
  | true => exact (show Out (R.ok true e1) _ _ from h1) H1 Sh1 s1 a1
  | false => exact (show Out (R.ok false e1) _ _ from h1) H1 Sh1 s1 a1
/-- what is within a block: no exception leaves it -/
def mElt (c : Cfg) (e : E) : M T := strong (isRd e) (ev c e)
def lcBody (c : Cfg) (tg : Tg) (ifs : Es) (elt : E) : T → M (Option T) := fun x e => (asg tg x e).bind fun _ e => (evT c ifs e).bind fun b e =>
  if b then (strong (isRd elt) (ev c elt) e).bind fun t e => .ok (some (fz t)) e else .ok none e
theorem noEx_out {α : Type} {r : R α} {P : α → Env → Prop} {Y : Nat → T → Env → Prop} (h : Out (noEx r) P Y) : Out r P (fun _ _ _ => False) := by
  cases r with
  | no => exact h
  | ok a e => exact h
  | ex k d e => exact h
/-- the turns of a block, from a state -/
structure LcW (Z : Rw) (Sh1 H1 : Hp) (F : List Addr) (σ : L2.St) (own : List Nat) (D : Addr) (l : List T) (body : T → M (Option T)) (P : List T → Env → Prop) (i : Nat) (H : Hp) : Prop where
  st : ∃ Sh e acc accV, SR Z Sh (D :: F) [] (L2.wipe σ own) H (wipe e own) ∧ H D = some (.lst accV) ∧ RpL Z Sh accV acc ∧ Aft Sh1 F H1 Sh H ∧ i ≤ l.length ∧ Out (turns own body (l.drop i) acc e) P (fun _ _ _ => False)
theorem lc_imp {J : L2.It} {l : List T} {Z : Rw} {Sh1 H1 : Hp} {F : List Addr} {ms : List (Nat × V)} {σ : L2.St} {e0 : Env} {own : List Nat} {tg : Tg} {ifs : Es} {elt : E} {D : Addr} {Q : VK}
    (s0 : SR Z Sh1 F ms σ H1 e0) (w : Wk Z Sh1 J l) (hp : plainAt e0 own = true) (ht : tgIn tg own = true) (hD : H1 D = none)
    (out : Out (turns own (lcBody c tg ifs elt) l [] e0) (fun acc e => ∀ H' Sh' accV, SR Z Sh' (D :: F) [] (L2.wipe σ own) H' (wipe e own) → H' D = some (.lst accV) → RpL Z Sh' accV acc → Aft Sh1 F H1 Sh' H' → Q (.ref D) H') (fun _ _ _ => False)) :
    ∃ W : Nat → Nat → Hp → Prop, (∃ m, W 0 m (upd H1 D (.lst []))) ∧ ∀ i m H, W i m H →
      (J.stop i H ∧ Q (.ref D) H) ∨ (J.go i H ∧ ∃ Nx : Hp → Prop, (∀ H', Nx H' → ∃ m', m' < m ∧ W (i + 1) m' H') ∧ ∀ x H', J.yld i H x H' → rTg Z [] tg x (L2.wipe σ own) H' fun σ2 H2 => L2.wipe σ2 own = L2.wipe σ own ∧ rTt Z (Xp.none Z) (evT c ifs) σ2 H2 fun b H3 =>
        if b = true then rF Z (Xp.none Z) (mElt c elt) σ2 H3 fun y H4 => ∃ acc, H4 D = some (.lst acc) ∧ acc.length < sizeLine ∧ Nx (upd H4 D (.lst (acc ++ [y]))) else Nx H3) := by
  have hz := line_eq
  generalize hP : (fun (acc : List T) (e : Env) => ∀ H' Sh' accV, SR Z Sh' (D :: F) [] (L2.wipe σ own) H' (wipe e own) → H' D = some (.lst accV) → RpL Z Sh' accV acc → Aft Sh1 F H1 Sh' H' → Q (.ref D) H') = P at out
  refine ⟨fun i m H => m = l.length - i ∧ LcW Z Sh1 H1 F σ own D l (lcBody c tg ifs elt) P i H, ⟨l.length, by simp, ⟨Sh1, e0, [], [], ?_, upd_same, RpL.nil, s0.aft_upd hD, Nat.zero_le _, by simpa using out⟩⟩, ?_⟩
  · exact SR.new (s0.wiped own) hD
  rintro i m H ⟨rfl, ⟨Sh, e, acc, accV, s, hd, racc, af, hi, out⟩⟩
  by_cases hlt : i < l.length
  · refine .inr ⟨w.go i Sh H af.grow s.sub hlt, fun H' => LcW Z Sh1 H1 F σ own D l (lcBody c tg ifs elt) P (i + 1) H', fun H' q => ⟨l.length - (i + 1), by omega, rfl, q⟩, fun x H' y => ?_⟩
    have hx : l[i]? = some l[i] := List.getElem?_eq_getElem hlt
    obtain ⟨Sh3, s3, a3, r3⟩ := w.yld i Sh H x H' (D :: F) [] (L2.wipe σ own) (wipe e own) l[i] af.grow s y hx
    have hd3 : H' D = some (.lst accV) := (a3.keep D List.mem_cons_self).trans hd
    rw [List.drop_eq_getElem_cons hlt] at out
    have out : Out ((lcBody c tg ifs elt l[i] (wipe e own)).bind fun o e => match o with
      | some t => if acc.length < line then turns own (lcBody c tg ifs elt) (l.drop (i + 1)) (acc ++ [t]) e else .no
      | none => turns own (lcBody c tg ifs elt) (l.drop (i + 1)) acc e) P (fun _ _ _ => False) := out
    have out := (show Out ((asg tg l[i] (wipe e own)).bind _) _ _ from out.bind).bind
    refine ⟨Sh3, D :: F, [], wipe e own, l[i], s3, fun p hp => by simp at hp, r3, out.imp (fun _ e1 h1 σ' s4 m4 => ?_) fun _ _ _ x => x⟩
    have hw : L2.wipe σ' own = L2.wipe σ own := by
      rw [← wipe_twice (σ := σ)]
      refine wipe_idem m4.1 fun j hj => m4.2 j fun z => hj ?_
      have := List.all_eq_true.mp ht j z
      simpa using this
    refine ⟨hw, Sh3, D :: F, [], e1, s4, (show Out ((evT c ifs e1).bind _) _ _ from h1).bind.imp (fun b e2 h2 H5 Sh5 s5 a5 => ?_) fun _ _ _ x => x⟩
    have hd5 : H5 D = some (.lst accV) := (a5.keep D List.mem_cons_self).trans hd3
    have a15 : Aft Sh1 F H1 Sh5 H5 := af.trans ((a3.trans a5).less fun z hz => List.mem_cons_of_mem _ hz)
    cases b with
    | false =>
      dsimp only
      rw [if_neg Bool.false_ne_true]
      refine ⟨Sh5, e2, acc, accV, ?_, hd5, racc.mono fun a o z => a5.grow a o (a3.grow a o z), a15, hlt, h2⟩
      have := s5.wiped own
      rwa [hw] at this
    | true =>
      dsimp only
      rw [if_pos rfl]
      have h2 : Out ((strong (isRd elt) (ev c elt) e2).bind fun t e => R.ok (some (fz t)) e) _ _ := h2
      refine ⟨Sh5, D :: F, [], e2, s5, h2.bind.imp (fun t e6 h6 y H6 Sh6 s6 r6 a6 => ?_) fun _ _ _ x => x⟩
      have h6 : Out (if acc.length < line then turns own (lcBody c tg ifs elt) (l.drop (i + 1)) (acc ++ [fz t]) e6 else .no) P (fun _ _ _ => False) := h6
      by_cases hacc : acc.length < line
      · rw [if_pos hacc] at h6
        have hd6 : H6 D = some (.lst accV) := (a6.keep D List.mem_cons_self).trans hd5
        refine ⟨accV, hd6, by rw [racc.1, ← hz]; exact hacc, Sh6, e6, acc ++ [fz t], accV ++ [y], ?_, upd_same, ?_, ?_, hlt, h6⟩
        · have s7 := s6.wiped own
          rw [hw] at s7
          have hDS : Sh6 D = none := (s6.fr.2 D List.mem_cons_self).1
          have ndF := List.nodup_cons.mp s6.fr.1
          exact SR.step (A := [D]) (A' := [D]) s7 (fun _ _ z => z) (fun a o z => by rw [upd_ne (ne_of_none z hDS)]; exact s7.sub a o z) (fun a ha _ => ⟨upd_ne (by simpa using ha), fun z => z⟩)
            (fun a ha => by obtain rfl : a = D := by simpa using ha
                            exact ⟨.inl (by simp), hDS, _, upd_same⟩) (by simp)
        · exact (racc.mono fun a o z => a6.grow a o (a5.grow a o (a3.grow a o z))).append (RpL.nil.cons r6)
        · refine ⟨fun a o z => a6.grow a o (a15.grow a o z), fun a ha => ?_⟩
          have ndF := List.nodup_cons.mp s6.fr.1
          have hne : a ≠ D := fun z => ndF.1 (z ▸ ha)
          rw [upd_ne hne]
          exact (a6.keep a (List.mem_cons_of_mem _ ha)).trans (a15.keep a ha)
      · rw [if_neg hacc] at h6; exact h6.elim
  · have e1 : i = l.length := by omega
    subst e1
    rw [List.drop_length] at out
    subst hP
    exact .inl ⟨w.stop _ Sh H af.grow s.sub (Nat.le_refl _), (show ∀ H' Sh' accV, _ from out) H Sh accV s hd racc af⟩
theorem wipe_get' (e : Env) (is : List Nat) (j : Nat) : (wipe e is)[j]? = if j ∈ is then (if j < e.length then some none else none) else e[j]? := by
  induction is with
  | nil => simp [wipe]
  | cons i is ih =>
    rw [wipe]
    by_cases z : i = j
    · subst z
      rw [if_pos List.mem_cons_self]
      by_cases hlt : i < e.length
      · rw [List.getElem?_set_self (by rw [wipe_len]; exact hlt), if_pos hlt]
      · rw [List.getElem?_eq_none (by rw [List.length_set, wipe_len]; omega), if_neg hlt]
    · rw [List.getElem?_set_ne z, ih]
      by_cases y : j ∈ is
      · rw [if_pos y, if_pos (List.mem_cons_of_mem _ y)]
      · rw [if_neg y, if_neg (by rw [List.mem_cons]; rintro (x | x); exact z x.symm; exact y x)]
theorem back_get' (e0 e : Env) (is : List Nat) (j : Nat) : (back e0 e is)[j]? = if j ∈ is then (if j < e.length then some ((e0[j]?).bind id) else none) else e[j]? := by
  induction is with
  | nil => simp [back]
  | cons i is ih =>
    rw [back]
    by_cases z : i = j
    · subst z
      rw [if_pos List.mem_cons_self]
      by_cases hlt : i < e.length
      · rw [List.getElem?_set_self (by rw [back_len]; exact hlt), if_pos hlt]
      · rw [List.getElem?_eq_none (by rw [List.length_set, back_len]; omega), if_neg hlt]
    · rw [List.getElem?_set_ne z, ih]
      by_cases y : j ∈ is
      · rw [if_pos y, if_pos (List.mem_cons_of_mem _ y)]
      · rw [if_neg y, if_neg (by rw [List.mem_cons]; rintro (x | x); exact z x.symm; exact y x)]
theorem back_wipe (e0 e : Env) (is : List Nat) : back e0 (wipe e is) is = back e0 e is := by
  apply List.ext_getElem?
  intro j
  rw [back_get', back_get', wipe_len, wipe_get']
  by_cases y : j ∈ is
  · rw [if_pos y, if_pos y]
  · rw [if_neg y, if_neg y, if_neg y]
/-- the last state of a block, and its value -/
theorem lc_end {Z : Rw} {Sh Sh1 H H1 : Hp} {F : List Addr} {ms : List (Nat × V)} {σ : L2.St} {e0 e : Env} {own : List Nat} {D : Addr} {Q : VK} {acc : List T} (s0 : SR Z Sh1 F ms σ H1 e0) (hp : plainAt e0 own = true) (a1 : Aft Sh F H Sh1 H1)
    (h : Out (R.ok (T.lst true acc) (back e0 e own)) (fun t env' => ∀ v H' Sh' A, SR Z Sh' (A ++ F) ms σ H' env' → Rep Z Sh' H' v t A → Aft Sh F H Sh' H' → Q v H') (fun _ _ _ => False)) :
    ∀ H' Sh' accV, SR Z Sh' (D :: F) [] (L2.wipe σ own) H' (wipe e own) → H' D = some (.lst accV) → RpL Z Sh' accV acc → Aft Sh1 F H1 Sh' H' → Q (.ref D) H' := fun H' Sh' accV s2 hd r af => by
  have s3 := SR.backTo s0 s2 af.grow wipe_twice hp
  rw [back_wipe] at s3
  exact (show ∀ v H' Sh' A, _ from h) _ H' Sh' [D] s3 (.lst hd (s2.fr.2 D List.mem_cons_self).1 r) (a1.trans af)
variable {tg : Tg} {ifs : Es} {elt : E} {it : Vi.It} {own : List Nat} {etg iter eelt : Expr} {eifs : List Expr} {scope : Scope} {pos : Pos}
theorem lc_read : ∀ σ H Q, rS (zx X) xp (ev c (.lc elt tg it ifs own)) σ H Q → tLc (rI (zx X) xp (evi c it)) (rTg (zx X) [] tg) (rTt (zx X) (Xp.none (zx X)) (evT c ifs)) (rF (zx X) (Xp.none (zx X)) (mElt c elt)) own σ H Q := fun σ H Q ⟨Sh, F, ms, env, sr, out⟩ => by
  have out : Out ((evi c it env).bind fun l e0 => if (plainAt e0 own && tgIn tg own) = true then noEx ((turns own (lcBody c tg ifs elt) l [] e0).bind fun acc e => .ok (T.lst true acc) (back e0 e own)) else .no) _ _ := out
  refine ⟨Sh, F, ms, env, sr, out.bind.imp (fun l e0 h1 J H1 Sh1 s1 w a1 D hD => ?_) fun _ _ _ x => x⟩
  by_cases hc : (plainAt e0 own && tgIn tg own) = true
  · rw [if_pos hc] at h1
    rw [Bool.and_eq_true] at hc
    have h2 := (noEx_out h1).bind
    exact lc_imp s1 w hc.1 hc.2 hD (h2.imp (fun acc e h3 => lc_end s1 hc.1 a1 h3) fun _ _ _ x => x)
  · rw [if_neg hc] at h1; exact h1.elim
/-- what a block's parts are to be -/
structure LcOk (X : Cx) (c : Cfg) (tg : Tg) (ifs : Es) (elt : E) (own : List Nat) (etg : Expr) (eifs : List Expr) (eelt : Expr) (scope : Scope) : Prop where
  ok : ∃ own' : List (Str × Nat), BlkOk X.N X.env.scope scope own' ∧ own'.map (·.2) = own
  g : ∀ (s : Shared) (H : Hp) (C : Addr) (cl : List (Str × Addr)) (fp : List Addr), PG (X.blk s H scope (compEnvC scope cl C X.env) fp) etg (rTg (zx X) [] tg)
  t : ∀ (s : Shared) (H : Hp) (C : Addr) (cl : List (Str × Addr)) (fp : List Addr), PTs (X.blk s H scope (compEnvC scope cl C X.env) fp) eifs (rTt (zx X) (Xp.none (zx X)) (evT c ifs))
  e : ∀ (s : Shared) (H : Hp) (C : Addr) (cl : List (Str × Addr)) (fp : List Addr), PE (X.blk s H scope (compEnvC scope cl C X.env) fp) eelt (rF (zx X) (Xp.none (zx X)) (mElt c elt))
theorem se_lc (hc : X.calm = true) (hN : X.N.Nodup) (hi : PI X etg iter (rI (zx X) xp (evi c it))) (L : LcOk X c tg ifs elt own etg eifs eelt scope) (hs : ∀ x, foldedSetIterable iter X.env x = pure x) :
    SE X c xp (.lc elt tg it ifs own) (.ListComp eelt [⟨etg, iter, eifs, 0⟩] scope pos) := by
  obtain ⟨own', ok, rfl⟩ := L.ok
  exact .plain rfl (peI (pe_lc hc hN hi ok L.g L.t L.e hs) lc_read) (fun _ => rfl)
end
end Vi

set_option autoImplicit false
set_option Elab.async false
set_option linter.all false
set_option maxRecDepth 100000
/-! VI: comprehensions of two clauses. -/
namespace Vi
open PySem PySem.Spec PyProof.Rows L2
section
variable {c : Cfg}
/-- the loop of a block, from any list -/
theorem lcI_imp {J : L2.It} {l : List T} {Z : Rw} {Sh1 H1 : Hp} {F : List Addr} {σ : L2.St} {e0 : Env} {own : List Nat} {tg : Tg} {ifs : Es} {elt : E} {D : Addr} {Qd : Hp → Prop} {acc0 : List T} {accV0 : List V}
    (s0 : SR Z Sh1 (D :: F) [] σ H1 e0) (hd0 : H1 D = some (.lst accV0)) (r0 : RpL Z Sh1 accV0 acc0) (w : Wk Z Sh1 J l) (ht : tgIn tg own = true)
    (out : Out (turns own (lcBody c tg ifs elt) l acc0 e0) (fun acc e => ∀ H' Sh' accV, SR Z Sh' (D :: F) [] (L2.wipe σ own) H' (wipe e own) → H' D = some (.lst accV) → RpL Z Sh' accV acc → Aft Sh1 F H1 Sh' H' → Qd H') (fun _ _ _ => False)) :
    ∃ W : Nat → Nat → Hp → Prop, (∃ m, W 0 m H1) ∧ ∀ i m H, W i m H →
      (J.stop i H ∧ Qd H) ∨ (J.go i H ∧ ∃ Nx : Hp → Prop, (∀ H', Nx H' → ∃ m', m' < m ∧ W (i + 1) m' H') ∧ ∀ x H', J.yld i H x H' → rTg Z [] tg x (L2.wipe σ own) H' fun σ2 H2 => L2.wipe σ2 own = L2.wipe σ own ∧ rTt Z (Xp.none Z) (evT c ifs) σ2 H2 fun b H3 =>
        if b = true then rF Z (Xp.none Z) (mElt c elt) σ2 H3 fun y H4 => ∃ acc, H4 D = some (.lst acc) ∧ acc.length < sizeLine ∧ Nx (upd H4 D (.lst (acc ++ [y]))) else Nx H3) := by
  have hz := line_eq
  generalize hP : (fun (acc : List T) (e : Env) => ∀ H' Sh' accV, SR Z Sh' (D :: F) [] (L2.wipe σ own) H' (wipe e own) → H' D = some (.lst accV) → RpL Z Sh' accV acc → Aft Sh1 F H1 Sh' H' → Qd H') = P at out
  refine ⟨fun i m H => m = l.length - i ∧ LcW Z Sh1 H1 F σ own D l (lcBody c tg ifs elt) P i H, ⟨l.length, by simp, ⟨Sh1, e0, acc0, accV0, s0.wiped own, hd0, r0, Aft.refl, Nat.zero_le _, by simpa using out⟩⟩, ?_⟩
  rintro i m H ⟨rfl, ⟨Sh, e, acc, accV, s, hd, racc, af, hi, out⟩⟩
  by_cases hlt : i < l.length
  · refine .inr ⟨w.go i Sh H af.grow s.sub hlt, fun H' => LcW Z Sh1 H1 F σ own D l (lcBody c tg ifs elt) P (i + 1) H', fun H' q => ⟨l.length - (i + 1), by omega, rfl, q⟩, fun x H' y => ?_⟩
    have hx : l[i]? = some l[i] := List.getElem?_eq_getElem hlt
    obtain ⟨Sh3, s3, a3, r3⟩ := w.yld i Sh H x H' (D :: F) [] (L2.wipe σ own) (wipe e own) l[i] af.grow s y hx
    have hd3 : H' D = some (.lst accV) := (a3.keep D List.mem_cons_self).trans hd
    rw [List.drop_eq_getElem_cons hlt] at out
    have out : Out ((lcBody c tg ifs elt l[i] (wipe e own)).bind fun o e => match o with
      | some t => if acc.length < line then turns own (lcBody c tg ifs elt) (l.drop (i + 1)) (acc ++ [t]) e else .no
      | none => turns own (lcBody c tg ifs elt) (l.drop (i + 1)) acc e) P (fun _ _ _ => False) := out
    have out := (show Out ((asg tg l[i] (wipe e own)).bind _) _ _ from out.bind).bind
    refine ⟨Sh3, D :: F, [], wipe e own, l[i], s3, fun p hp => by simp at hp, r3, out.imp (fun _ e1 h1 σ' s4 m4 => ?_) fun _ _ _ x => x⟩
    have hw : L2.wipe σ' own = L2.wipe σ own := by
      rw [← wipe_twice (σ := σ)]
      refine wipe_idem m4.1 fun j hj => m4.2 j fun z => hj ?_
      have := List.all_eq_true.mp ht j z
      simpa using this
    refine ⟨hw, Sh3, D :: F, [], e1, s4, (show Out ((evT c ifs e1).bind _) _ _ from h1).bind.imp (fun b e2 h2 H5 Sh5 s5 a5 => ?_) fun _ _ _ x => x⟩
    have hd5 : H5 D = some (.lst accV) := (a5.keep D List.mem_cons_self).trans hd3
    have a15 : Aft Sh1 F H1 Sh5 H5 := af.trans ((a3.trans a5).less fun z hz => List.mem_cons_of_mem _ hz)
    cases b with
    | false =>
      dsimp only
      rw [if_neg Bool.false_ne_true]
      refine ⟨Sh5, e2, acc, accV, ?_, hd5, racc.mono fun a o z => a5.grow a o (a3.grow a o z), a15, hlt, h2⟩
      have := s5.wiped own
      rwa [hw] at this
    | true =>
      dsimp only
      rw [if_pos rfl]
      have h2 : Out ((strong (isRd elt) (ev c elt) e2).bind fun t e => R.ok (some (fz t)) e) _ _ := h2
      refine ⟨Sh5, D :: F, [], e2, s5, h2.bind.imp (fun t e6 h6 y H6 Sh6 s6 r6 a6 => ?_) fun _ _ _ x => x⟩
      have h6 : Out (if acc.length < line then turns own (lcBody c tg ifs elt) (l.drop (i + 1)) (acc ++ [fz t]) e6 else .no) P (fun _ _ _ => False) := h6
      by_cases hacc : acc.length < line
      · rw [if_pos hacc] at h6
        have hd6 : H6 D = some (.lst accV) := (a6.keep D List.mem_cons_self).trans hd5
        refine ⟨accV, hd6, by rw [racc.1, ← hz]; exact hacc, Sh6, e6, acc ++ [fz t], accV ++ [y], ?_, upd_same, ?_, ?_, hlt, h6⟩
        · have s7 := s6.wiped own
          rw [hw] at s7
          have hDS : Sh6 D = none := (s6.fr.2 D List.mem_cons_self).1
          have ndF := List.nodup_cons.mp s6.fr.1
          exact SR.step (A := [D]) (A' := [D]) s7 (fun _ _ z => z) (fun a o z => by rw [upd_ne (ne_of_none z hDS)]; exact s7.sub a o z) (fun a ha _ => ⟨upd_ne (by simpa using ha), fun z => z⟩)
            (fun a ha => by obtain rfl : a = D := by simpa using ha
                            exact ⟨.inl (by simp), hDS, _, upd_same⟩) (by simp)
        · exact (racc.mono fun a o z => a6.grow a o (a5.grow a o (a3.grow a o z))).append (RpL.nil.cons r6)
        · refine ⟨fun a o z => a6.grow a o (a15.grow a o z), fun a ha => ?_⟩
          have ndF := List.nodup_cons.mp s6.fr.1
          have hne : a ≠ D := fun z => ndF.1 (z ▸ ha)
          rw [upd_ne hne]
          exact (a6.keep a (List.mem_cons_of_mem _ ha)).trans (a15.keep a ha)
      · rw [if_neg hacc] at h6; exact h6.elim
  · have e1 : i = l.length := by omega
    subst e1
    rw [List.drop_length] at out
    subst hP
    exact .inl ⟨w.stop _ Sh H af.grow s.sub (Nat.le_refl _), (show ∀ H' Sh' accV, _ from out) H Sh accV s hd racc af⟩
def lc2Body (c : Cfg) (tg : Tg) (ifs : Es) (it2 : Vi.It) (tg2 : Tg) (ifs2 : Es) (elt : E) (own2 : List Nat) : T → List T → M (List T) := fun x acc e => (asg tg x e).bind fun _ e => (evT c ifs e).bind fun b e =>
  if b then (evi c it2 e).bind fun l2 e => turns own2 (lcBody c tg2 ifs2 elt) l2 acc e else .ok acc e
structure LcW2 (Z : Rw) (Sh1 H1 : Hp) (F : List Addr) (σ : L2.St) (own : List Nat) (D : Addr) (l : List T) (body : T → List T → M (List T)) (P : List T → Env → Prop) (i : Nat) (H : Hp) : Prop where
  st : ∃ Sh e acc accV, SR Z Sh (D :: F) [] (L2.wipe σ own) H (wipe e own) ∧ H D = some (.lst accV) ∧ RpL Z Sh accV acc ∧ Aft Sh1 F H1 Sh H ∧ i ≤ l.length ∧ Out (turns2 own body (l.drop i) acc e) P (fun _ _ _ => False)
theorem wipeE_sub {e : Env} {own own2 : List Nat} (h : ∀ j ∈ own2, j ∈ own) : wipe (wipe e own2) own = wipe e own := by
  apply List.ext_getElem?
  intro j
  rw [wipe_get', wipe_get', wipe_len, wipe_get']
  by_cases y : j ∈ own
  · rw [if_pos y, if_pos y]
  · rw [if_neg y, if_neg y, if_neg fun z => y (h j z)]
theorem wipeS_sub {σ : L2.St} {own own2 : List Nat} (h : ∀ j ∈ own2, j ∈ own) : L2.wipe (L2.wipe σ own2) own = L2.wipe σ own := wipe_idem (wipe_length _ _) fun j hj => wipe_out fun z => hj (h j z)
theorem lc2_imp {J : L2.It} {l : List T} {Z : Rw} {Sh1 H1 : Hp} {F : List Addr} {ms : List (Nat × V)} {σ : L2.St} {e0 : Env} {own own2 : List Nat} {tg tg2 : Tg} {ifs ifs2 : Es} {it2 : Vi.It} {elt : E} {D : Addr} {Q : VK}
    (s0 : SR Z Sh1 F ms σ H1 e0) (w : Wk Z Sh1 J l) (ht : tgIn tg own = true) (ht2 : tgIn tg2 own2 = true) (hs : ∀ j ∈ own2, j ∈ own) (hD : H1 D = none)
    (out : Out (turns2 own (lc2Body c tg ifs it2 tg2 ifs2 elt own2) l [] e0) (fun acc e => ∀ H' Sh' accV, SR Z Sh' (D :: F) [] (L2.wipe σ own) H' (wipe e own) → H' D = some (.lst accV) → RpL Z Sh' accV acc → Aft Sh1 F H1 Sh' H' → Q (.ref D) H') (fun _ _ _ => False)) :
    ∃ W : Nat → Nat → Hp → Prop, (∃ m, W 0 m (upd H1 D (.lst []))) ∧ ∀ i m H, W i m H →
      (J.stop i H ∧ Q (.ref D) H) ∨ (J.go i H ∧ ∃ Nx : Hp → Prop, (∀ H', Nx H' → ∃ m', m' < m ∧ W (i + 1) m' H') ∧ ∀ x H', J.yld i H x H' → rTg Z [] tg x (L2.wipe σ own) H' fun σ2 H2 => L2.wipe σ2 own = L2.wipe σ own ∧ rTt Z (Xp.none Z) (evT c ifs) σ2 H2 fun b H3 =>
        if b = true then rI Z (Xp.none Z) (evi c it2) σ2 H3 fun J1 H4 => ∃ W1 : Nat → Nat → Hp → Prop, (∃ m, W1 0 m H4) ∧ ∀ j k H, W1 j k H →
          (J1.stop j H ∧ Nx H) ∨ (J1.go j H ∧ ∃ Nx1 : Hp → Prop, (∀ H', Nx1 H' → ∃ k', k' < k ∧ W1 (j + 1) k' H') ∧ ∀ x H', J1.yld j H x H' → rTg Z [] tg2 x (L2.wipe σ2 own2) H' fun σ3 H5 => L2.wipe σ3 own2 = L2.wipe σ2 own2 ∧ rTt Z (Xp.none Z) (evT c ifs2) σ3 H5 fun b H6 =>
            if b = true then rF Z (Xp.none Z) (mElt c elt) σ3 H6 fun y H7 => ∃ acc, H7 D = some (.lst acc) ∧ acc.length < sizeLine ∧ Nx1 (upd H7 D (.lst (acc ++ [y]))) else Nx1 H6)
        else Nx H3) := by
  generalize hP : (fun (acc : List T) (e : Env) => ∀ H' Sh' accV, SR Z Sh' (D :: F) [] (L2.wipe σ own) H' (wipe e own) → H' D = some (.lst accV) → RpL Z Sh' accV acc → Aft Sh1 F H1 Sh' H' → Q (.ref D) H') = P at out
  generalize hB : lc2Body c tg ifs it2 tg2 ifs2 elt own2 = B at out
  refine ⟨fun i m H => m = l.length - i ∧ LcW2 Z Sh1 H1 F σ own D l B P i H, ⟨l.length, by simp, ⟨Sh1, e0, [], [], SR.new (s0.wiped own) hD, upd_same, RpL.nil, s0.aft_upd hD, Nat.zero_le _, by simpa using out⟩⟩, ?_⟩
  rintro i m H ⟨rfl, ⟨Sh, e, acc, accV, s, hd, racc, af, hi, out⟩⟩
  by_cases hlt : i < l.length
  · refine .inr ⟨w.go i Sh H af.grow s.sub hlt, fun H' => LcW2 Z Sh1 H1 F σ own D l B P (i + 1) H', fun H' q => ⟨l.length - (i + 1), by omega, rfl, q⟩, fun x H' y => ?_⟩
    have hx : l[i]? = some l[i] := List.getElem?_eq_getElem hlt
    obtain ⟨Sh3, s3, a3, r3⟩ := w.yld i Sh H x H' (D :: F) [] (L2.wipe σ own) (wipe e own) l[i] af.grow s y hx
    have hd3 : H' D = some (.lst accV) := (a3.keep D List.mem_cons_self).trans hd
    rw [List.drop_eq_getElem_cons hlt] at out
    have out : Out ((B l[i] acc (wipe e own)).bind fun acc e => turns2 own B (l.drop (i + 1)) acc e) P (fun _ _ _ => False) := out
    rw [← hB] at out
    have out := (show Out ((asg tg l[i] (wipe e own)).bind _) _ _ from out.bind).bind
    rw [hB] at out
    refine ⟨Sh3, D :: F, [], wipe e own, l[i], s3, fun p hp => by simp at hp, r3, out.imp (fun _ e1 h1 σ' s4 m4 => ?_) fun _ _ _ x => x⟩
    have hw : L2.wipe σ' own = L2.wipe σ own := by
      rw [← wipe_twice (σ := σ)]
      refine wipe_idem m4.1 fun j hj => m4.2 j fun z => hj ?_
      have := List.all_eq_true.mp ht j z
      simpa using this
    refine ⟨hw, Sh3, D :: F, [], e1, s4, (show Out ((evT c ifs e1).bind _) _ _ from h1).bind.imp (fun b e2 h2 H5 Sh5 s5 a5 => ?_) fun _ _ _ x => x⟩
    have hd5 : H5 D = some (.lst accV) := (a5.keep D List.mem_cons_self).trans hd3
    have a15 : Aft Sh1 F H1 Sh5 H5 := af.trans ((a3.trans a5).less fun z hz => List.mem_cons_of_mem _ hz)
    have racc5 := racc.mono fun a o z => a5.grow a o (a3.grow a o z)
    cases b with
    | false =>
      dsimp only
      rw [if_neg Bool.false_ne_true]
      refine ⟨Sh5, e2, acc, accV, ?_, hd5, racc5, a15, hlt, h2⟩
      have := s5.wiped own
      rwa [hw] at this
    | true =>
      dsimp only
      rw [if_pos rfl]
      have h2 : Out ((evi c it2 e2).bind fun l2 e => turns own2 (lcBody c tg2 ifs2 elt) l2 acc e) _ _ := h2
      refine ⟨Sh5, D :: F, [], e2, s5, h2.bind.imp (fun l2 e6 h6 J1 H6 Sh6 s6 w6 a6 => ?_) fun _ _ _ x => x⟩
      have hd6 : H6 D = some (.lst accV) := (a6.keep D List.mem_cons_self).trans hd5
      have a16 : Aft Sh1 F H1 Sh6 H6 := a15.trans (a6.less fun z hz => List.mem_cons_of_mem _ hz)
      refine lcI_imp (acc0 := acc) s6 hd6 (racc5.mono a6.grow) w6 ht2 (h6.imp (fun acc7 e7 h7 H7 Sh7 accV7 s7 hd7 r7 a7 => ?_) fun _ _ _ x => x)
      refine ⟨Sh7, e7, acc7, accV7, ?_, hd7, r7, a16.trans a7, hlt, h7⟩
      have := s7.wiped own
      rwa [wipeS_sub hs, wipeE_sub hs, hw] at this
  · have e1 : i = l.length := by omega
    subst e1
    rw [List.drop_length] at out
    subst hP
    exact .inl ⟨w.stop _ Sh H af.grow s.sub (Nat.le_refl _), (show ∀ H' Sh' accV, _ from out) H Sh accV s hd racc af⟩
end
section
variable {X : Cx} {c : Cfg} {xp : Xp (zx X)} {tg tg2 : Tg} {ifs ifs2 : Es} {elt : E} {it it2 : Vi.It} {own own2 : List Nat} {etg iter etg2 iter2 eelt : Expr} {eifs eifs2 : List Expr} {scope : Scope} {pos : Pos}
theorem lc2_read : ∀ σ H Q, rS (zx X) xp (ev c (.lc2 elt tg it ifs tg2 it2 ifs2 own own2)) σ H Q →
    tLc2 (rI (zx X) xp (evi c it)) (rTg (zx X) [] tg) (rTt (zx X) (Xp.none (zx X)) (evT c ifs)) (rI (zx X) (Xp.none (zx X)) (evi c it2)) (rTg (zx X) [] tg2) (rTt (zx X) (Xp.none (zx X)) (evT c ifs2)) (rF (zx X) (Xp.none (zx X)) (mElt c elt)) own own2 σ H Q := fun σ H Q ⟨Sh, F, ms, env, sr, out⟩ => by
  have out : Out ((evi c it env).bind fun l e0 => if (plainAt e0 own && tgIn tg own && tgIn tg2 own2 && own2.all own.contains) = true then noEx ((turns2 own (lc2Body c tg ifs it2 tg2 ifs2 elt own2) l [] e0).bind fun acc e => .ok (T.lst true acc) (back e0 e own)) else .no) _ _ := out
  refine ⟨Sh, F, ms, env, sr, out.bind.imp (fun l e0 h1 J H1 Sh1 s1 w a1 D hD => ?_) fun _ _ _ x => x⟩
  by_cases hc : (plainAt e0 own && tgIn tg own && tgIn tg2 own2 && own2.all own.contains) = true
  · rw [if_pos hc] at h1
    simp only [Bool.and_eq_true] at hc
    obtain ⟨⟨⟨c1, c2⟩, c3⟩, c4⟩ := hc
    have h2 := (noEx_out h1).bind
    refine lc2_imp s1 w c2 c3 (fun j hj => by have := List.all_eq_true.mp c4 j hj; simpa using this) hD (h2.imp (fun acc e h3 => lc_end s1 c1 a1 h3) fun _ _ _ x => x)
  · rw [if_neg hc] at h1; exact h1.elim
theorem se_lc2 (hc : X.calm = true) (hN : X.N.Nodup) (hi : PI X etg iter (rI (zx X) xp (evi c it))) (ok : ∃ own' : List (Str × Nat), BlkOk X.N X.env.scope scope own' ∧ own'.map (·.2) = own) (hv : ∀ i ∈ own2, i ∈ own)
    (hg : ∀ (s : Shared) (H : Hp) (C : Addr) (cl : List (Str × Addr)) (fp : List Addr), PG (X.blk s H scope (compEnvC scope cl C X.env) fp) etg (rTg (zx X) [] tg))
    (ht : ∀ (s : Shared) (H : Hp) (C : Addr) (cl : List (Str × Addr)) (fp : List Addr), PTs (X.blk s H scope (compEnvC scope cl C X.env) fp) eifs (rTt (zx X) (Xp.none (zx X)) (evT c ifs)))
    (hi1 : ∀ (s : Shared) (H : Hp) (C : Addr) (cl : List (Str × Addr)) (fp : List Addr), PI (X.blk s H scope (compEnvC scope cl C X.env) fp) etg2 iter2 (rI (zx X) (Xp.none (zx X)) (evi c it2)))
    (hg1 : ∀ (s : Shared) (H : Hp) (C : Addr) (cl : List (Str × Addr)) (fp : List Addr), PG (X.blk s H scope (compEnvC scope cl C X.env) fp) etg2 (rTg (zx X) [] tg2))
    (ht1 : ∀ (s : Shared) (H : Hp) (C : Addr) (cl : List (Str × Addr)) (fp : List Addr), PTs (X.blk s H scope (compEnvC scope cl C X.env) fp) eifs2 (rTt (zx X) (Xp.none (zx X)) (evT c ifs2)))
    (he : ∀ (s : Shared) (H : Hp) (C : Addr) (cl : List (Str × Addr)) (fp : List Addr), PE (X.blk s H scope (compEnvC scope cl C X.env) fp) eelt (rF (zx X) (Xp.none (zx X)) (mElt c elt)))
    (hs : ∀ x, foldedSetIterable iter X.env x = pure x) (hs1 : ∀ env x, foldedSetIterable iter2 env x = pure x) :
    SE X c xp (.lc2 elt tg it ifs tg2 it2 ifs2 own own2) (.ListComp eelt [⟨etg, iter, eifs, 0⟩, ⟨etg2, iter2, eifs2, 0⟩] scope pos) := by
  obtain ⟨own', ok, rfl⟩ := ok
  exact .plain rfl (peI (pe_lc2 hc hN hi ok hv hg ht hi1 hg1 ht1 he hs hs1) lc2_read) (fun _ => rfl)
end
end Vi

set_option autoImplicit false
set_option Elab.async false
set_option linter.all false
set_option maxRecDepth 100000
/-! VI: dicts that are written, read with a default, copied from a module's. -/
namespace Vi
open PySem PySem.Spec PyProof.Rows L2
section
variable {X : Cx} {c : Cfg} {xp : Xp (zx X)} {pos : Pos}
/-- the pairs of a display, in the text and in the IR -/
inductive Prs (X : Cx) (c : Cfg) (xp : Xp (zx X)) (pos : Pos) : Es → List (Option Expr) → List Expr → List (TE × TE) → Prop where
  | nil : Prs X c xp pos .nil [] [] []
  | cons {ek ev' : E} {es : Es} {k v : Expr} {ks : List (Option Expr)} {vs : List Expr} {trs : List (TE × TE)} (hk : SE X c xp ek k) (hv : SE X c xp ev' v) (r : Prs X c xp pos es ks vs trs) :
      Prs X c xp pos (.cons ek (.cons ev' es)) (some k :: ks) (v :: vs) ((rF (zx X) xp (strong (isRd ek) (ev c ek)), rF (zx X) xp (strong (isRd ev') (ev c ev'))) :: trs)
theorem Prs.pps {es : Es} {ks : List (Option Expr)} {vs : List Expr} {trs : List (TE × TE)} (r : Prs X c xp pos es ks vs trs) : PPs X pos ks vs trs := by
  induction r with
  | nil => exact pps_nil
  | cons hk hv _ ih => exact pps_cons (pe_frzS hk) (pe_frzS hv) ih
theorem Prs.facts {es : Es} {ks : List (Option Expr)} {vs : List Expr} {trs : List (TE × TE)} (r : Prs X c xp pos es ks vs trs) : ks.all (·.isSome) = true ∧ ks.length = vs.length ∧ trs.length = ks.length := by
  induction r with
  | nil => exact ⟨rfl, rfl, rfl⟩
  | cons _ _ _ ih => exact ⟨by simpa using ih.1, by simp [ih.2.1], by simp [ih.2.2]⟩
theorem Prs.imp {es : Es} {ks : List (Option Expr)} {vs : List Expr} {trs : List (TE × TE)} (r : Prs X c xp pos es ks vs trs) : ∀ {Sh F ms σ H env acc} {kvs : List (Key × V)} {Q : List (V × V) → Hp → Prop} {Y : Nat → T → Env → Prop} {D : Addr},
    SR (zx X) Sh (D :: F) ms σ H env → KR (zx X) Sh kvs acc → (∀ k d e, Y k d e → xp.p Sh (D :: F) ms H k d e) →
    Out (evp c es acc env) (fun l e => ∀ H' Sh' (more : List (Key × V)), SR (zx X) Sh' (D :: F) ms σ H' e → KR (zx X) Sh' (mergeK kvs more) l → more.length = trs.length → Aft Sh (D :: F) H Sh' H' → Q (more.map fun kv => (kV kv.1, kv.2)) H') Y → tPairs trs σ H Q := by
  induction r with
  | nil =>
    intro Sh F ms σ H env acc kvs Q Y D s kr hY out
    exact (show Out (R.ok acc env) _ _ from out) H Sh [] s kr rfl Aft.refl
  | @cons ek ev' es k v ks vs trs hk hv _ ih =>
    intro Sh F ms σ H env acc kvs Q Y D s kr hY out
    have out : Out ((strong (isRd ek) (ev c ek) env).bind fun t e => (strong (isRd ev') (ev c ev') e).bind fun u e => if (kind? (fz t) == some false) = true then evp c es (dput acc (fz t) (fz u)) e else .no) _ _ := out
    refine ⟨Sh, D :: F, ms, env, s, out.bind.imp (fun t e1 h1 x H1 Sh1 s1 r1 a1 => ?_) fun k d e y => hY k d e y⟩
    refine ⟨Sh1, D :: F, ms, e1, s1, h1.bind.imp (fun u e2 h2 y H2 Sh2 s2 r2 a2 => ?_) fun k d e y => xp.mono [] a1 (hY k d e y)⟩
    by_cases hkd : (kind? (fz t) == some false) = true
    · rw [if_pos hkd] at h2
      have hk0 : kind? (fz t) = some false := by simpa using hkd
      obtain ⟨key, e, hx⟩ := keyT_of0 hk0 r1
      refine ih (kvs := putK kvs key y) s2 ?_ (fun k d e y => xp.mono [] (a1.trans a2) (hY k d e y)) (h2.imp (fun l e3 h3 H3 Sh3 more s3 k3 hl a3 => ?_) fun _ _ _ x => x)
      · rw [← e]
        exact (kr.mono (fun a o z => a2.grow a o (a1.grow a o z))).put key r2
      · have := h3 H3 Sh3 ((key, y) :: more) s3 k3 (by simp [hl]) ((a1.trans a2).trans a3)
        rw [List.map_cons] at this
        rw [hx]
        exact this
    · rw [if_neg hkd] at h2; exact h2.elim
theorem se_dct {es : Es} {ks : List (Option Expr)} {vs : List Expr} {trs : List (TE × TE)} (r : Prs X c xp pos es ks vs trs) (h0 : ks ≠ []) (h15 : ks.length ≤ 15) : SE X c xp (.dct es) (.Dict ks vs pos) := by
  obtain ⟨f1, f2, f3⟩ := r.facts
  refine .plain rfl (peI (pe_disp r.pps f1 f2 h0 h15) fun σ H Q ⟨Sh, F, ms, env, sr, out⟩ => ?_) (fun _ => rfl)
  have out : Out ((evp c es [] env).bind fun l e => R.ok (T.dic true l) e) _ _ := out
  intro D hD
  have a0 := sr.aft_upd (o := .dK []) hD
  have shD := sr.sh_none hD
  refine r.imp (D := D) (SR.new sr hD) KR.nil (fun k d e y => xp.mono [D] (F := F) a0 y) (out.bind.imp (fun l e h1 H' Sh' more s2 k2 hl a2 => ?_) fun _ _ _ x => x)
  have hd2 : H' D = some (.dK []) := (a2.keep D List.mem_cons_self).trans upd_same
  refine ⟨hd2, more, rfl, by omega, ?_⟩
  have hS : Sh' D = none := (s2.fr.2 D List.mem_cons_self).1
  have s3 : SR (zx X) Sh' ([D] ++ F) ms σ (upd H' D (.dK (mergeK [] more))) e := SR.step (A := [D]) (A' := [D]) s2 (fun _ _ z => z) (fun a o z => by rw [upd_ne (ne_of_none z hS)]; exact s2.sub a o z) (fun a ha _ => ⟨upd_ne (by simpa using ha), fun z => z⟩)
    (fun a ha => by obtain rfl : a = D := by simpa using ha
                    exact ⟨.inl (by simp), hS, _, upd_same⟩) (by simp)
  refine (show ∀ v H' Sh' A, _ from h1) _ _ Sh' [D] s3 (.dic0 upd_same hS k2.hk (VRep.ofRpL k2.hv)) ⟨fun a o z => a2.grow a o z, fun a ha => ?_⟩
  have ndF := List.nodup_cons.mp s2.fr.1
  have hne : a ≠ D := fun z => ndF.1 (z ▸ ha)
  rw [upd_ne hne]
  exact (a2.keep a (List.mem_cons_of_mem _ ha)).trans (a0.keep a ha)
/-- {} -/
theorem se_dct0 : SE X c xp (.dct .nil) (.Dict [] [] pos) := by
  refine .plain rfl (peI pe_dnewK fun σ H Q ⟨Sh, F, ms, env, sr, out⟩ => ?_) (fun _ => rfl)
  have out : Out (R.ok (T.dic true []) env) _ _ := out
  intro D hD
  exact (show ∀ v H' Sh' A, _ from out) _ _ Sh [D] (SR.new sr hD) (.dic0 upd_same (sr.sh_none hD) rfl .nil) (sr.aft_upd hD)
/-- a module's dict, copied -/
theorem se_gdct {g : Nat} {x n : Str} {p q : Pos} {o : Bool} {l : List (T × T)} {kvs : List (Key × V)} (hg : c.glos[g]? = some (.dic o l)) (h : PE X (.Call (.Name x p) [.Name n q] [] pos) (fun σ H Q => ∀ D, H D = none → Q (.ref D) (upd H D (.dK kvs))))
    (hk : kvs.map (fun p => keyT p.1) = l.map (·.1)) (hr : ∀ Sh, RpL (zx X) Sh (kvs.map (·.2)) (l.map (·.2))) : SE X c xp (.gdct g) (.Call (.Name x p) [.Name n q] [] pos) := by
  refine .plain rfl (peI h fun σ H Q ⟨Sh, F, ms, env, sr, out⟩ => ?_) (fun _ => rfl)
  have out : Out (need ((c.glos[g]?).bind fun t => match t with
    | .dic _ l => some (T.dic true l)
    | _ => none) env) _ _ := out
  rw [hg] at out
  have out : Out (R.ok (T.dic true l) env) _ _ := out
  intro D hD
  exact (show ∀ v H' Sh' A, _ from out) _ _ Sh [D] (SR.new sr hD) (.dic0 upd_same (sr.sh_none hD) hk (VRep.ofRpL (hr Sh))) (sr.aft_upd hD)
/-! ### x.get(k, d) -/
theorem dic_isD {Z : Rw} {Sh H : Hp} {F : List Addr} {ms : List (Nat × V)} {σ : L2.St} {env : Env} {A : List Addr} {x : V} {o : Bool} {l : List (T × T)} (s : SR Z Sh F ms σ H env) (r : Rep Z Sh H x (.dic o l) A) :
    ∃ a, x = .ref a ∧ ((∃ kvs, Rd H a (.dK kvs)) ∨ ∃ xs, Rd H a (keyedO Z.P Z.w a xs) ∧ xs.map (·.1) = l.map (fun q => nk q.1) ∧ l ≠ [] ∧ (∀ q ∈ l, kind? q.1 = some true) ∧ ∀ (i : Nat) (p : NestedKey × Addr × V) (q : T × T), xs[i]? = some p → l[i]? = some q → Rp Z Sh (.ref p.2.1) q.1) := by
  cases r with
  | sh r =>
    cases r with
    | dic0 h _ _ _ => exact ⟨_, rfl, .inl ⟨_, .inr ⟨_, s.sub _ _ h⟩⟩⟩
    | dic1 h hl hk hp hr _ => exact ⟨_, rfl, .inr ⟨_, .inr ⟨_, s.sub _ _ h⟩, hk, hp.1, hp.2, hr⟩⟩
  | dic0 h _ _ _ => exact ⟨_, rfl, .inl ⟨_, .inl h⟩⟩
  | dic1 h _ hk hp hr _ => exact ⟨_, rfl, .inr ⟨_, .inl h, hk, hp.1, hp.2, hr⟩⟩
/-- it is a dict -/
def IsDic (Z : Rw) (x : V) (H : Hp) : Prop := ∃ Sh a, x = .ref a ∧ Grow Sh H ∧ ((∃ kvs, Rd H a (.dK kvs)) ∨ ∃ xs, Rd H a (keyedO Z.P Z.w a xs) ∧ KeysIn Z Sh xs)
theorem IsDic.at {pins : List (Addr × Obj)} {σ : L2.St} {H : Hp} {s : Shared} {x : V} {u : Value} (I : Inv X pins σ H s) (rx : RelV x u) (h : IsDic (zx X) x H) : ∃ a, x = .ref a ∧ u = .ref a ∧ s.TypeIs (.ref a) "dict" ∧ ∀ b, Value.ref a = .ref b → ∃ ob, s.heap.get? b = some ob ∧ ob.dict = none := by
  obtain ⟨Sh, a, rfl, g, ⟨kvs, e⟩ | ⟨xs, e, hk⟩⟩ := h
  · cases (show u = Value.ref a from rx)
    obtain ⟨_, hd, vs, _, dd⟩ := dk_rd I.hok e
    refine ⟨a, rfl, rfl, dd.typeIs, fun b q => ?_⟩
    cases q
    obtain ⟨ob, _, _, h1, h2, _⟩ := dd
    exact ⟨ob, h1, h2.2.1⟩
  · cases (show u = Value.ref a from rx)
    obtain ⟨_, _, ys, _, dd⟩ := keyed_at I g e hk
    refine ⟨a, rfl, rfl, dd.typeIs, fun b q => ?_⟩
    cases q
    obtain ⟨ob, _, _, h1, h2, _⟩ := dd
    exact ⟨ob, h1, h2.2.1⟩
def tGetZ (Z : Rw) (td ty tx : TE) : TE := fun σ H Q => td σ H fun x H1 => IsDic Z x H1 ∧ ty σ H1 fun y H2 => tx σ H2 fun z H3 => ∃ Sh a o, x = .ref a ∧ DLook Z Sh H3 a y o ∧ Q (o.getD z) H3
theorem pe_getZ {o e f : Expr} {apos : Pos} {td ty tx : TE} (hu : X.A.units + 65 < cLine) (ho : PE X o td) (he : PE X e ty) (hf : PE X f tx) (m : M2 X o "get" apos e f pos) : PE X (.Call (.Attribute o "get" apos) [e, f] [] pos) (tGetZ (zx X) td ty tx) := by
  refine ⟨fun pins s σ H Q I h => ?_⟩
  refine wpAny_Call_method m.base m.few m.line PySem.F.plainAttrs_dict PySem.F.slot_dict_get PySem.F.type_dict_get (thn (ho.run pins s σ H _ I h) fun u s1 ⟨x, H1, I1, rx, d, q1⟩ => ?_)
  obtain ⟨a, rfl, rfl, t1, t2⟩ := d.at I1 rx
  refine ⟨t1, t2, ?_⟩
  rw [m.trees]
  refine Calls.callWith_builtin rfl (Calls.evalArgs_plain (Calls.spliced_cons (thn (he.run pins s1 σ H1 _ I1 q1) fun iv s2 ⟨y, H2, I2, ry, q2⟩ =>
    Calls.spliced_cons (thn (hf.run pins s2 σ H2 _ I2 q2) fun fv s3 ⟨z, H3, I3, rz, Sh, b, ov, e, g, q3⟩ => Calls.spliced_nil ?_))))
  cases e
  exact zd_get2 hu I3 g ry rz fun w' s4 I4 rw' => ⟨_, H3, I4, rw', q3⟩
theorem se_get {ed ek ex' : E} {o e f : Expr} {apos : Pos} (hu : X.A.units + 65 < cLine) (ho : SE X c xp ed o) (he : SE X c xp ek e) (hf : SE X c xp ex' f) (m : M2 X o "get" apos e f pos) : SE X c xp (.get ed ek ex') (.Call (.Attribute o "get" apos) [e, f] [] pos) := by
  refine .plain rfl (peI (pe_getZ hu ho.o he.o (pe_frzS hf) m) fun σ H Q ⟨Sh, F, ms, env, sr, out⟩ => ?_) (fun _ => rfl)
  have out : Out ((opd (isRd ed) (ev c ed) env).bind fun o e => (need ((o.get e).bind dic?) e).bind fun _ e => (opd (isRd ek) (ev c ek) e).bind fun p e => (strong (isRd ex') (ev c ex') e).bind fun t e => fin3 o p (.v (fz t)) getT e) _ _ := out
  refine ⟨Sh, F, ms, env, sr, out.bind.imp (fun o e1 h1 v1 H1 Sh1 A s1 r1 a1 => ?_) fun _ _ _ x => x⟩
  obtain ⟨u, hu', h1⟩ := out_need h1.bind
  obtain ⟨td, g1, hd⟩ := Option.bind_eq_some_iff.mp hu'
  obtain ⟨A1, w1⟩ := r1.fin s1.less g1
  refine ⟨?_, Sh1, A ++ F, ms, e1, s1, h1.bind.imp (fun p e2 h2 v2 H2 Sh2 B s2 r2 a2 => ?_) fun _ _ _ x => xp.mono A a1 x⟩
  · cases td with
    | dic ow l =>
      obtain ⟨a, e, h | ⟨xs, h, hk, hne, hkd, hr⟩⟩ := dic_isD s1.less w1
      · exact ⟨Sh1, a, e, s1.sub, .inl h⟩
      · refine ⟨Sh1, a, e, s1.sub, .inr ⟨xs, h, fun p hp => ?_⟩⟩
        obtain ⟨i, hi⟩ := List.getElem?_of_mem hp
        have hlen : xs.length = l.length := by have := congrArg List.length hk; simpa using this
        obtain ⟨hi', _⟩ := List.getElem?_eq_some_iff.mp hi
        have hq : l[i]? = some l[i] := List.getElem?_eq_getElem (by omega)
        have e : nk (l[i]).1 = p.1 := by
          have := congrArg (fun z => z[i]?) hk
          simp only [List.getElem?_map, hi, hq] at this
          exact (Option.some.inj this).symm
        exact ⟨_, hkd _ (List.mem_of_getElem? hq), e, hr i p _ hi hq⟩
    | _ => cases hd
  · have a12 : Aft Sh F H Sh2 H2 := a1.trans (a2.less fun x hx => List.mem_append_right _ hx)
    refine ⟨Sh2, B ++ (A ++ F), ms, e2, s2, h2.bind.imp (fun t e3 h3 z H3 Sh3 s3 r3 a3 => ?_) fun _ _ _ x => by have := xp.mono (B ++ A) a12 x; rwa [List.append_assoc] at this⟩
    obtain ⟨ta, tb, tc, t', g1', g2', g3', hf3, fin⟩ := out_fin3 h3
    have s3' : SR (zx X) Sh3 F ms σ H3 e3 := s3.less.less
    have q1 := r1.stay (a2.trans (a3.less fun x hx => List.mem_append_right _ hx)) (fun x hx => List.mem_append_left _ hx) (fun x hx => (s3.less.fr.2 x hx).1)
    have q2 := r2.stay a3 (fun x hx => List.mem_append_left _ hx) (fun x hx => (s3.fr.2 x hx).1)
    obtain ⟨A', w1'⟩ := q1.fin s3' g1'
    obtain ⟨B', w2'⟩ := q2.fin s3' g2'
    cases g3'
    have a13 : Aft Sh F H Sh3 H3 := a12.trans (a3.less fun x hx => List.mem_append_right _ (List.mem_append_right _ hx))
    cases ta with
    | dic ow l =>
      have hf3 : (if kindD l tb = true then some (((dget l tb).map sh1).getD (fz t)) else none) = some t' := hf3
      by_cases hk : kindD l tb = true
      · rw [if_pos hk] at hf3
        cases hf3
        obtain ⟨a, ov, e, g, h⟩ := dlook s3' w1' w2' hk
        refine ⟨Sh3, a, ov, e, g, ?_⟩
        rcases h with ⟨rfl, h⟩ | ⟨v, t2, rfl, h, hr⟩
        · rw [h] at fin
          exact fin z H3 Sh3 [] s3' (.sh r3) a13
        · rw [h] at fin
          exact fin v H3 Sh3 [] s3' (.sh hr) a13
      · rw [if_neg hk] at hf3; cases hf3
    | _ => cases hf3
end
end Vi

set_option autoImplicit false
set_option Elab.async false
set_option linter.all false
set_option maxRecDepth 100000
/-! VI: statements. -/
namespace Vi
open PySem PySem.Spec PyProof.Rows L2
section
variable {X : Cx} {c : Cfg} {xp : Xp (zx X)} {ML : List Nat} {a b : Expr} {ea eb : E} {pos : Pos} {st : Stmt} {sts : List Stmt}
/-- a statement's end -/
def StEnd (Z : Rw) (D : Ends) (Sh : Hp) (F : List Addr) (ms : List (Nat × V)) (H : Hp) (f : Fl) (e : Env) : Prop := match f with
  | .nx => ∀ σ' H' Sh', SR Z Sh' F ms σ' H' e → Aft Sh F H Sh' H' → D.nx σ' H'
  | .brk => ∀ σ' H' Sh', SR Z Sh' F ms σ' H' e → Aft Sh F H Sh' H' → D.bk σ' H'
  | .cnt => ∀ σ' H' Sh', SR Z Sh' F ms σ' H' e → Aft Sh F H Sh' H' → D.ct σ' H'
  | .ret t => ∀ v σ' H' Sh' A, SR Z Sh' (A ++ F) ms σ' H' e → Rep Z Sh' H' v t A → Aft Sh F H Sh' H' → D.rt v H'
theorem StEnd.after {Z : Rw} {D : Ends} {Sh Sh1 H H1 : Hp} {F : List Addr} {ms : List (Nat × V)} {f : Fl} {e : Env} (h : StEnd Z D Sh F ms H f e) (a : Aft Sh F H Sh1 H1) : StEnd Z D Sh1 F ms H1 f e := by
  cases f with
  | nx => exact fun σ' H' Sh' s q => h σ' H' Sh' s (a.trans q)
  | brk => exact fun σ' H' Sh' s q => h σ' H' Sh' s (a.trans q)
  | cnt => exact fun σ' H' Sh' s q => h σ' H' Sh' s (a.trans q)
  | ret t => exact fun v σ' H' Sh' A s r q => h v σ' H' Sh' A s r (a.trans q)
def rX (Z : Rw) (xp : Xp Z) (ML : List Nat) (m : M Fl) : TS := fun D σ H => ∃ Sh F ms env, SR Z Sh F ms σ H env ∧ (∀ p ∈ ms, p.1 ∈ ML) ∧ Out (m env) (fun f e => StEnd Z D Sh F ms H f e) (xp.p Sh F ms H)
theorem ss_pass : PS X (.Pass pos) (rX (zx X) xp ML (ex c .pass)) := psI ps_pass fun D σ H ⟨Sh, F, ms, env, s, hm, out⟩ => (show StEnd _ D Sh F ms H .nx env from (show Out (R.ok Fl.nx env) _ _ from out)) σ H Sh s Aft.refl
theorem ss_brk : PS X (.Break pos) (rX (zx X) xp ML (ex c .brk)) := psI ps_break fun D σ H ⟨Sh, F, ms, env, s, hm, out⟩ => (show StEnd _ D Sh F ms H .brk env from (show Out (R.ok Fl.brk env) _ _ from out)) σ H Sh s Aft.refl
theorem ss_cnt : PS X (.Continue pos) (rX (zx X) xp ML (ex c .cnt)) := psI ps_continue fun D σ H ⟨Sh, F, ms, env, s, hm, out⟩ => (show StEnd _ D Sh F ms H .cnt env from (show Out (R.ok Fl.cnt env) _ _ from out)) σ H Sh s Aft.refl
/-- name = value -/
theorem set_read {i : Nat} (hM : i ∉ ML) : ∀ D σ H, rX (zx X) xp ML (ex c (.asg i ea)) D σ H → tAsg (rS (zx X) xp (strong (isRd ea) (ev c ea))) (gName i) D σ H := fun D σ H ⟨Sh, F, ms, env, s, hm, out⟩ => by
  have out : Out ((strong (isRd ea) (ev c ea) env).bind fun t e => (setVar i t e).bind fun _ e => R.ok Fl.nx e) _ _ := out
  refine ⟨Sh, F, ms, env, s, out.bind.imp (fun t e1 h1 v H1 Sh1 A s1 r1 a1 => ?_) fun _ _ _ x => x⟩
  unfold setVar at h1
  by_cases hi : i < e1.length
  · rw [if_pos hi] at h1
    exact (show StEnd _ D Sh F ms H .nx _ from h1) _ H1 Sh1 (s1.store r1 hi fun p hp z => hM (z ▸ hm p hp)) a1
  · rw [if_neg hi] at h1; exact h1.elim
theorem ss_asg {i : Nat} {x : Str} {pos' : Pos} (hN : X.N.Nodup) (hi : X.N[i]? = some x) (hx : Loc X.env.scope x) (hf : X.fn x = true ∨ X.env.scope.names.lookup x = some .local) (hM : i ∉ ML) (h : SE X c xp ea a) (hs : swapsWith a (some (.Name x pos')) pos.line X.env = pure false) :
    PS X (.Assign [.Name x pos'] a pos) (rX (zx X) xp ML (ex c (.asg i ea))) := psI (ps_set hN hi hx (pe_strong h) hs hf) (set_read hM)
theorem asg_noex : ∀ (tg : Tg) (t : T) (e : Env) (k : Nat) (d : T) (e2 : Env), asg tg t e = .ex k d e2 → False := by
  intro tg
  refine Tg.rec (motive_1 := fun tg => ∀ (t : T) (e : Env) (k : Nat) (d : T) (e2 : Env), asg tg t e = .ex k d e2 → False) (motive_2 := fun ts => ∀ (l : List T) (e : Env) (k : Nat) (d : T) (e2 : Env), asgs ts l e = .ex k d e2 → False) ?_ ?_ ?_ ?_ tg
  · intro i t e k d e2 h
    have h : (if i < e.length then R.ok () (e.set i (some t)) else R.no) = .ex k d e2 := h
    split at h <;> cases h
  · intro ts ih t e k d e2 h
    cases t with
    | tup l => exact ih l e k d e2 h
    | _ => cases h
  · intro l e k d e2 h
    cases l <;> cases h
  · intro t ts ih1 ih2 l e k d e2 h
    cases l with
    | nil => cases h
    | cons a l =>
      have h : ((asg t a e).bind fun _ e => asgs ts l e) = .ex k d e2 := h
      cases q : asg t a e with
      | no => rw [q] at h; cases h
      | ex k2 d2 e3 => exact ih1 _ _ _ _ _ q
      | ok u e3 => rw [q] at h; exact ih2 _ _ _ _ _ h
/-- targets = value -/
theorem ss_asgT {tg : Tg} {et : Expr} (h : SE X c xp ea a) (hg : PG X et (rTg (zx X) ML tg)) (hs : swapsWithSole [et] a pos.line X.env = pure false) (hw : swappedStores [et] a X.env = pure none) (h1 : (assignEach [et] X.env).map (·.2) = [assign et X.env]) :
    PS X (.Assign [et] a pos) (rX (zx X) xp ML (ex c (.asgT tg ea))) := psI (ps_asg (pe_frzS h) hg hs hw h1) fun D σ H ⟨Sh, F, ms, env, s, hm, out⟩ => by
  have out : Out ((strong (isRd ea) (ev c ea) env).bind fun t e => (asg tg (fz t) e).bind fun _ e => R.ok Fl.nx e) _ _ := out
  refine ⟨Sh, F, ms, env, s, out.bind.imp (fun t e1 h2 v H1 Sh1 s1 r1 a1 => ?_) fun _ _ _ x => x⟩
  refine ⟨Sh1, F, ms, e1, _, s1, hm, r1, ?_⟩
  have h3 := h2.bind
  cases q : asg tg (fz t) e1 with
  | no => rw [q] at h3; exact h3
  | ex k d e => exact (asg_noex _ _ _ _ _ _ q).elim
  | ok u e2 =>
    rw [q] at h3
    exact fun σ' s2 _ => (show StEnd _ D Sh F ms H .nx e2 from h3) σ' H1 Sh1 s2 a1
/-- a value that is dropped -/
theorem ss_exp (h : SE X c xp ea a) (hs : swapsWith a none pos.line X.env = pure false) : PS X (.Expr a pos) (rX (zx X) xp ML (ex c (.exp ea))) := psI (ps_expr (pe_strong h) hs) fun D σ H ⟨Sh, F, ms, env, s, hm, out⟩ => by
  have out : Out ((strong (isRd ea) (ev c ea) env).bind fun _ e => R.ok Fl.nx e) _ _ := out
  exact ⟨Sh, F, ms, env, s, out.bind.imp (fun t e1 h1 v H1 Sh1 A s1 r1 a1 => (show StEnd _ D Sh F ms H .nx e1 from h1) σ H1 Sh1 s1.less a1) fun _ _ _ x => x⟩
theorem ss_ret (h : SE X c xp ea a) : PS X (.Return (some a) pos) (rX (zx X) xp ML (ex c (.ret ea))) := psI (ps_ret (pe_strong h)) fun D σ H ⟨Sh, F, ms, env, s, hm, out⟩ => by
  have out : Out ((strong (isRd ea) (ev c ea) env).bind fun t e => R.ok (Fl.ret t) e) _ _ := out
  exact ⟨Sh, F, ms, env, s, out.bind.imp (fun t e1 h1 v H1 Sh1 A s1 r1 a1 => (show StEnd _ D Sh F ms H (.ret t) e1 from h1) v σ H1 Sh1 A s1 r1 a1) fun _ _ _ x => x⟩
theorem ss_retv {i : Nat} (h : PE X a (tVar i)) : PS X (.Return (some a) pos) (rX (zx X) xp ML (ex c (.retv i))) := psI (ps_ret h) fun D σ H ⟨Sh, F, ms, env, s, hm, out⟩ => by
  have out : Out (match (env[i]?).bind id with
    | some t => R.ok (Fl.ret t) (env.set i none)
    | none => .no) _ _ := out
  cases q : (env[i]?).bind id with
  | none => rw [q] at out; exact out.elim
  | some t =>
    rw [q] at out
    obtain ⟨v, A, e1, r, s1⟩ := s.take q
    exact ⟨v, e1, (show StEnd _ D Sh F ms H (.ret t) _ from out) v σ H Sh A s1 r Aft.refl⟩
theorem ss_retN : PS X (.Return none pos) (rX (zx X) xp ML (ex c .retN)) := psI ps_retN fun D σ H ⟨Sh, F, ms, env, s, hm, out⟩ =>
  (show StEnd _ D Sh F ms H (.ret .non) env from (show Out (R.ok (Fl.ret .non) env) _ _ from out)) .non σ H Sh [] s (.sh .non) Aft.refl
/-- code that ends by an exception, where none may come -/
theorem ss_rai {k : Nat} {eo : Eo} (hex : ∀ Sh F ms H k d e, ¬ xp.p Sh F ms H k d e) : PS X st (rX (zx X) xp ML (ex c (.rai k eo))) := psI ps_never fun D σ H ⟨Sh, F, ms, env, s, hm, out⟩ => by
  cases eo with
  | non => exact hex _ _ _ _ _ _ _ (show Out (R.ex k .non env) _ _ from out)
  | som a =>
    have out : Out ((strong (isRd a) (ev c a) env).bind fun t e => R.ex k (fz t) e) _ _ := out
    cases q : strong (isRd a) (ev c a) env with
    | no => rw [q] at out; exact out.elim
    | ok t e => rw [q] at out; exact hex _ _ _ _ _ _ _ (show Out (R.ex k (fz t) e) _ _ from out)
    | ex k d e => rw [q] at out; exact hex _ _ _ _ _ _ _ (show Out (R.ex k d e) _ _ from out)
/-! ### blocks, if -/
theorem ss_nil : PSs X [] (rX (zx X) xp ML (exs c .nil)) := pssI pss_nil fun D σ H ⟨Sh, F, ms, env, s, hm, out⟩ => (show StEnd _ D Sh F ms H .nx env from (show Out (R.ok Fl.nx env) _ _ from out)) σ H Sh s Aft.refl
theorem ss_cons {s1 : S} {ss : Ss} (h : PS X st (rX (zx X) xp ML (ex c s1))) (hr : PSs X sts (rX (zx X) xp ML (exs c ss))) : PSs X (st :: sts) (rX (zx X) xp ML (exs c (.cons s1 ss))) := pssI (pss_cons h hr) fun D σ H ⟨Sh, F, ms, env, s, hm, out⟩ => by
  have out : Out ((ex c s1 env).bind fun f e => match f with
    | .nx => exs c ss e
    | f => .ok f e) _ _ := out
  refine ⟨Sh, F, ms, env, s, hm, out.bind.imp (fun f e1 h1 => ?_) fun _ _ _ x => x⟩
  cases f with
  | nx => exact fun σ1 H1 Sh1 s2 a2 => ⟨Sh1, F, ms, e1, s2, hm, (show Out (exs c ss e1) _ _ from h1).imp (fun f e2 h2 => h2.after a2) fun _ _ _ x => xp.mono [] a2 x⟩
  | brk => exact (show StEnd _ D Sh F ms H .brk e1 from h1)
  | cnt => exact (show StEnd _ D Sh F ms H .cnt e1 from h1)
  | ret t => exact (show StEnd _ D Sh F ms H (.ret t) e1 from h1)
theorem ss_ifs {sa sb : Ss} {xa xb : List Stmt} (h : SE X c xp ea a) (ha : PSs X xa (rX (zx X) xp ML (exs c sa))) (hb : PSs X xb (rX (zx X) xp ML (exs c sb))) : PS X (.If a xa xb pos) (rX (zx X) xp ML (ex c (.ifs ea sa sb))) := psI (ps_if h.t ha hb) fun D σ H ⟨Sh, F, ms, env, s, hm, out⟩ => by
  have out : Out ((testM (isRd ea) (ev c ea) env).bind fun k e => if k = true then exs c sa e else exs c sb e) _ _ := out
  refine ⟨Sh, F, ms, env, s, out.bind.imp (fun k e1 h1 H1 Sh1 s1 a1 => ?_) fun _ _ _ x => x⟩
  cases k with
  | true =>
    rw [if_pos rfl] at h1 ⊢
    exact ⟨Sh1, F, ms, e1, s1, hm, h1.imp (fun f e2 h2 => h2.after a1) fun _ _ _ x => xp.mono [] a1 x⟩
  | false =>
    rw [if_neg Bool.false_ne_true] at h1 ⊢
    exact ⟨Sh1, F, ms, e1, s1, hm, h1.imp (fun f e2 h2 => h2.after a1) fun _ _ _ x => xp.mono [] a1 x⟩
/-! ### for -/
structure FoW (Z : Rw) (xp : Xp Z) (Sh1 H1 : Hp) (F : List Addr) (ms : List (Nat × V)) (l : List T) (tg : T → M Unit) (body : M Fl) (P : Fl → Env → Prop) (i : Nat) (σ : L2.St) (H : Hp) : Prop where
  st : ∃ Sh e, SR Z Sh F ms σ H e ∧ Aft Sh1 F H1 Sh H ∧ i ≤ l.length ∧ Out (forL tg body (l.drop i) e) P (xp.p Sh1 F ms H1)
theorem asg_out {tg : Tg} {t : T} {e : Env} {P : Unit → Env → Prop} {Y Y' : Nat → T → Env → Prop} (h : Out (asg tg t e) P Y) : Out (asg tg t e) P Y' := by
  cases q : asg tg t e with
  | no => rw [q] at h; exact h
  | ex k d e => exact (asg_noex _ _ _ _ _ _ q).elim
  | ok u e2 => rw [q] at h; exact h
end
end Vi

set_option autoImplicit false
set_option Elab.async false
set_option linter.all false
set_option maxRecDepth 100000
/-! VI: loops, parallel stores, changes in place. -/
namespace Vi
open PySem PySem.Spec PyProof.Rows L2
section
variable {X : Cx} {c : Cfg} {xp : Xp (zx X)} {ML : List Nat} {a b : Expr} {ea eb : E} {pos : Pos} {st : Stmt} {sts : List Stmt}
theorem ss_for {tg : Tg} {it : Vi.It} {ss : Ss} {etg iter : Expr} {body : List Stmt} (hp : PassesOwn (model X.prog X.w) X.A X.env X.xe) (hc : X.calm = true) (hi : PI X etg iter (rI (zx X) xp (evi c it))) (hg : PG X etg (rTg (zx X) ML tg)) (hb : PSs X body (rX (zx X) xp ML (exs c ss))) (hs : ∀ x, foldedSetIterable iter X.env x = pure x) :
    PS X (.For etg iter body [] pos) (rX (zx X) xp ML (ex c (.for tg it ss))) := psI (ps_for hp hc hi hg hb hs) fun D σ H ⟨Sh, F, ms, env, s, hm, out⟩ => by
  have out : Out ((evi c it env).bind fun l e => forL (asg tg) (exs c ss) l e) _ _ := out
  refine ⟨Sh, F, ms, env, s, out.bind.imp (fun l e1 h1 J H1 Sh1 s1 w a1 => ?_) fun _ _ _ x => x⟩
  have h1 : Out (forL (asg tg) (exs c ss) l e1) (fun f e => StEnd (zx X) D Sh1 F ms H1 f e) (xp.p Sh1 F ms H1) := h1.imp (fun f e q => q.after a1) fun _ _ _ x => xp.mono [] a1 x
  generalize hP : (fun (f : Fl) (e : Env) => StEnd (zx X) D Sh1 F ms H1 f e) = P at h1
  refine ⟨fun i m σ H => m = l.length - i ∧ FoW (zx X) xp Sh1 H1 F ms l (asg tg) (exs c ss) P i σ H, ⟨l.length, by simp, ⟨Sh1, e1, s1, Aft.refl, Nat.zero_le _, by simpa using h1⟩⟩, ?_⟩
  rintro i m σ2 H2 ⟨rfl, ⟨Sh2, e2, s2, a2, hi2, h2⟩⟩
  by_cases hlt : i < l.length
  · refine .inr ⟨w.go i Sh2 H2 a2.grow s2.sub hlt, fun σ' H' => FoW (zx X) xp Sh1 H1 F ms l (asg tg) (exs c ss) P (i + 1) σ' H', fun σ' H' q => ⟨l.length - (i + 1), by omega, rfl, q⟩, fun x H' y => ?_⟩
    have hx : l[i]? = some l[i] := List.getElem?_eq_getElem hlt
    obtain ⟨Sh3, s3, a3, r3⟩ := w.yld i Sh2 H2 x H' F ms σ2 e2 l[i] a2.grow s2 y hx
    rw [List.drop_eq_getElem_cons hlt] at h2
    have h2 : Out ((asg tg l[i] e2).bind fun _ e => (exs c ss e).bind fun f e => match f with
      | .nx => forL (asg tg) (exs c ss) (l.drop (i + 1)) e
      | .cnt => forL (asg tg) (exs c ss) (l.drop (i + 1)) e
      | .brk => .ok .nx e
      | .ret t => .ok (.ret t) e) _ _ := h2
    have a13 := a2.trans a3
    refine ⟨Sh3, F, ms, e2, l[i], s3, hm, r3, (asg_out h2.bind).imp (fun _ e3 h3 σ4 s4 _ => ?_) fun _ _ _ x => x⟩
    refine ⟨Sh3, F, ms, e3, s4, hm, (show Out ((exs c ss e3).bind _) _ _ from h3).bind.imp (fun f e5 h5 => ?_) fun _ _ _ x => xp.mono [] a13 x⟩
    cases f with
    | nx => exact fun σ' H5 Sh5 s5 a5 => ⟨Sh5, e5, s5, a13.trans a5, hlt, h5⟩
    | cnt => exact fun σ' H5 Sh5 s5 a5 => ⟨Sh5, e5, s5, a13.trans a5, hlt, h5⟩
    | brk =>
      subst hP
      exact fun σ' H5 Sh5 s5 a5 => (show StEnd (zx X) D Sh1 F ms H1 .nx e5 from h5) σ' H5 Sh5 s5 (a13.trans a5)
    | ret t =>
      subst hP
      exact fun v σ' H5 Sh5 A s5 r5 a5 => (show StEnd (zx X) D Sh1 F ms H1 (.ret t) e5 from h5) v σ' H5 Sh5 A s5 r5 (a13.trans a5)
  · have e3 : i = l.length := by omega
    subst e3
    rw [List.drop_length] at h2
    subst hP
    exact .inl ⟨w.stop _ Sh2 H2 a2.grow s2.sub (Nat.le_refl _), (show StEnd (zx X) D Sh1 F ms H1 .nx e2 from h2) σ2 H2 Sh2 s2 a2⟩
/-! ### while -/
theorem ss_whl {ss : Ss} {body : List Stmt} (hp : PassesOwn (model X.prog X.w) X.A X.env X.xe) (h : SE X c xp ea a) (hb : PSs X body (rX (zx X) xp ML (exs c ss))) : PS X (.While a body [] pos) (rX (zx X) xp ML (ex c (.whl ea ss))) := psI (ps_while hp h.t hb) fun D σ H ⟨Sh, F, ms, env, s, hm, out⟩ => by
  have out : Out (whlL (testM (isRd ea) (ev c ea)) (exs c ss) many env) _ _ := out
  generalize many = n at out
  generalize hP : (fun (f : Fl) (e : Env) => StEnd (zx X) D Sh F ms H f e) = P at out
  refine ⟨fun m σ2 H2 => ∃ Sh2 e2, SR (zx X) Sh2 F ms σ2 H2 e2 ∧ Aft Sh F H Sh2 H2 ∧ Out (whlL (testM (isRd ea) (ev c ea)) (exs c ss) m e2) P (xp.p Sh F ms H), ⟨n, Sh, env, s, Aft.refl, out⟩, ?_⟩
  rintro m σ2 H2 ⟨Sh2, e2, s2, a2, h2⟩
  cases m with
  | zero => exact h2.elim
  | succ m =>
    have h2 : Out ((testM (isRd ea) (ev c ea) e2).bind fun b e => if b = true then (exs c ss e).bind fun f e => match f with
      | .nx => whlL (testM (isRd ea) (ev c ea)) (exs c ss) m e
      | .cnt => whlL (testM (isRd ea) (ev c ea)) (exs c ss) m e
      | .brk => .ok .nx e
      | .ret t => .ok (.ret t) e
      else .ok .nx e) _ _ := h2
    refine ⟨Sh2, F, ms, e2, s2, h2.bind.imp (fun b e3 h3 H3 Sh3 s3 a3 => ?_) fun _ _ _ x => xp.mono [] a2 x⟩
    have a13 := a2.trans a3
    cases b with
    | false =>
      rw [if_neg Bool.false_ne_true] at h3
      dsimp only
      rw [if_neg Bool.false_ne_true]
      subst hP
      exact (show StEnd (zx X) D Sh F ms H .nx e3 from h3) σ2 H3 Sh3 s3 a13
    | true =>
      rw [if_pos rfl] at h3
      dsimp only
      rw [if_pos rfl]
      refine ⟨fun σ' H' => ∃ Sh2 e2, SR (zx X) Sh2 F ms σ' H' e2 ∧ Aft Sh F H Sh2 H' ∧ Out (whlL (testM (isRd ea) (ev c ea)) (exs c ss) m e2) P (xp.p Sh F ms H), fun σ' H' q => ⟨m, Nat.lt_succ_self _, q⟩, ?_⟩
      refine ⟨Sh3, F, ms, e3, s3, hm, h3.bind.imp (fun f e5 h5 => ?_) fun _ _ _ x => xp.mono [] a13 x⟩
      cases f with
      | nx => exact fun σ' H5 Sh5 s5 a5 => ⟨Sh5, e5, s5, a13.trans a5, h5⟩
      | cnt => exact fun σ' H5 Sh5 s5 a5 => ⟨Sh5, e5, s5, a13.trans a5, h5⟩
      | brk =>
        subst hP
        exact fun σ' H5 Sh5 s5 a5 => (show StEnd (zx X) D Sh F ms H .nx e5 from h5) σ' H5 Sh5 s5 (a13.trans a5)
      | ret t =>
        subst hP
        exact fun v σ' H5 Sh5 A s5 r5 a5 => (show StEnd (zx X) D Sh F ms H (.ret t) e5 from h5) v σ' H5 Sh5 A s5 r5 (a13.trans a5)
/-! ### a, b = x, y -/
/-- values in flight -/
def rK (Z : Rw) (xp : Xp Z) (m : M (List T)) : TA := fun σ H Q => ∃ Sh F ms env, SR Z Sh F ms σ H env ∧
  Out (m env) (fun ts env' => ∀ vs H' Sh' AA, SR Z Sh' (FL AA ++ F) ms σ H' env' → ArgsRel Z σ Sh' H' vs (ts.map .inl) AA → Aft Sh F H Sh' H' → Q vs H') (xp.p Sh F ms H)
theorem ka_nil : PA X [] (rK (zx X) xp (evk c .nil)) := paI pa_nil fun σ H Q ⟨Sh, F, ms, env, sr, out⟩ => (show Out (R.ok [] env) _ _ from out) [] H Sh [] sr .nil Aft.refl
theorem ka_cons {es : Es} {xs : List Expr} (h : SE X c xp ea a) (hr : PA X xs (rK (zx X) xp (evk c es))) (hs : notStar a = true) : PA X (a :: xs) (rK (zx X) xp (evk c (.cons ea es))) :=
  paI (pa_cons (pe_strong h) hr (star_of hs)) fun σ H Q ⟨Sh, F, ms, env, sr, out⟩ => by
    have out : Out ((strong (isRd ea) (ev c ea) env).bind fun t e => (evk c es e).bind fun l e => R.ok (t :: l) e) _ _ := out
    refine ⟨Sh, F, ms, env, sr, out.bind.imp (fun t e1 h1 v H1 Sh1 A s1 r1 a1 => ?_) fun _ _ _ x => x⟩
    refine ⟨Sh1, A ++ F, ms, e1, s1, h1.bind.imp (fun l e2 h2 vs H2 Sh2 AA s2 r2 a2 => ?_) fun _ _ _ x => xp.mono A a1 x⟩
    refine (show ∀ vs H' Sh' AA, _ from h2) (v :: vs) H2 Sh2 (A :: AA) (by rw [FL, List.append_assoc]; exact s2) (.val (r1.stay a2 (fun x hx => List.mem_append_left _ hx) fun x hx => ?_) r2) (a1.trans (a2.less fun x hx => List.mem_append_right _ hx))
    exact (s2.fr.2 x (List.mem_append_right _ hx)).1
theorem setVar_out {i : Nat} {t : T} {e : Env} {α : Type} {P : α → Env → Prop} {Y : Nat → T → Env → Prop} {k : Unit → Env → R α} (h : Out ((setVar i t e).bind k) P Y) : i < e.length ∧ Out (k () (e.set i (some t))) P Y := by
  unfold setVar at h
  by_cases hi : i < e.length
  · rw [if_pos hi] at h; exact ⟨hi, h⟩
  · rw [if_neg hi] at h; exact h.elim
theorem ss_par2 {i j : Nat} {es : Es} {x y : Str} {px py pt : Pos} {kt k2 : Nat} {pt2 : Pos} (hc : X.calm = true) (hN : X.N.Nodup) (hi : X.N[i]? = some x) (hj : X.N[j]? = some y) (hij : i ≠ j) (hx : X.env.scope.names.lookup x = some .local) (hy : X.env.scope.names.lookup y = some .local)
    (hMi : i ∉ ML) (hMj : j ∉ ML) (ha : PA X [a, b] (rK (zx X) xp (evk c es))) (hw : swappedStores [.Tuple [.Name x px, .Name y py] kt pt] (.Tuple [a, b] k2 pt2) X.env = pure (some [x, y])) :
    PS X (.Assign [.Tuple [.Name x px, .Name y py] kt pt] (.Tuple [a, b] k2 pt2) pos) (rX (zx X) xp ML (ex c (.par [i, j] es))) := psI (ps_par hc hN hi hj hij hx hy ha hw rfl) fun D σ H ⟨Sh, F, ms, env, s, hm, out⟩ => by
  have out : Out ((evk c es env).bind fun l e => (parM [i, j] l e).bind fun _ e => R.ok Fl.nx e) _ _ := out
  refine ⟨Sh, F, ms, env, s, out.bind.imp (fun l e1 h1 vs H1 Sh1 AA s1 r1 a1 => ?_) fun _ _ _ x => x⟩
  match l, vs, AA, r1, h1, s1 with
  | [], _, _, _, h1, _ => exact h1.elim
  | [t], _, _, .val q1 .nil, h1, _ =>
    have h1 : Out (((setVar i t e1).bind fun _ e => parM [j] [] e).bind fun _ e => R.ok Fl.nx e) _ _ := h1
    cases q : setVar i t e1 with
    | no => rw [q] at h1; exact h1.elim
    | ok u e => rw [q] at h1; exact (show Out ((R.no : R Unit).bind fun _ e => R.ok Fl.nx e) _ _ from h1).elim
    | ex k d e => unfold setVar at q; split at q <;> cases q
  | [t, u], [v, w], [A, B], .val q1 (.val q2 .nil), h1, s1 =>
    refine ⟨v, w, rfl, ?_⟩
    have h1 : Out (((setVar i t e1).bind fun _ e => (setVar j u e).bind fun _ e => R.ok () e).bind fun _ e => R.ok Fl.nx e) _ _ := h1
    have h2 : Out ((setVar i t e1).bind fun _ e => (setVar j u e).bind fun _ e => R.ok () e) _ _ := h1.bind
    obtain ⟨l1, h3⟩ := setVar_out h2
    obtain ⟨l2, h4⟩ := setVar_out h3
    have s1 : SR (zx X) Sh1 (B ++ (A ++ F)) ms σ H1 e1 := by
      have := s1
      simp only [FL, List.nil_append, List.append_assoc] at this
      exact this
    have s2 := s1.store q2 (i := j) (by rw [List.length_set] at l2; exact l2) fun p hp z => hMj (z ▸ hm p hp)
    have s3 := s2.store q1 (i := i) (by rw [List.length_set]; exact l1) fun p hp z => hMi (z ▸ hm p hp)
    rw [List.set_comm _ _ (Ne.symm hij), List.set_comm _ _ (Ne.symm hij)] at s3
    exact (show StEnd (zx X) D Sh F ms H .nx _ from h4) _ H1 Sh1 s3 a1
  | t :: u :: w :: r, _, _, _, h1, _ =>
    have h1 : Out (((setVar i t e1).bind fun _ e => (setVar j u e).bind fun _ e => parM [] (w :: r) e).bind fun _ e => R.ok Fl.nx e) _ _ := h1
    have h2 := h1.bind
    obtain ⟨l1, h3⟩ := setVar_out h2
    obtain ⟨l2, h4⟩ := setVar_out h3
    exact h4.elim
/-! ### x.append(y) -/
theorem isOwnL_some {e : Env} {i : Nat} (h : isOwnL e i = true) : ∃ l, (e[i]?).bind id = some (.lst true l) := by
  unfold isOwnL at h
  split at h
  · rename_i l e; exact ⟨l, e⟩
  · cases h
theorem ss_app {i : Nat} {o : Expr} {apos cpos : Pos} (hM : True) (ho : PE X o (tVar i)) (h : SE X c xp ea a) (h1 : notSuper o = true) (h2 : notStar a = true) (h3 : (apos.endLine == cpos.line) = true) :
    PS X (.Expr (.Call (.Attribute o "append" apos) [a] [] cpos) pos) (rX (zx X) xp ML (ex c (.app i ea))) :=
  psI (ps_expr (pe_bm PySem.F.plainAttrs_list PySem.F.slot_list_append PySem.F.type_list_append mt_append ho (pa_cons (pe_frzS h) pa_nil (star_of h2)) (base_of h1) (few1 h2) h3 (star_of h2) any1) rfl) fun D σ H ⟨Sh, F, ms, env, s, hm, out⟩ => by
    have out : Out (if isOwnL env i = true then (strong (isRd ea) (ev c ea) env).bind fun t e => (appM i t e).bind fun _ e => R.ok Fl.nx e else .no) _ _ := out
    by_cases hq : isOwnL env i = true
    · rw [if_pos hq] at out
      obtain ⟨l0, g0⟩ := isOwnL_some hq
      obtain ⟨v, A, e1, r, _⟩ := s.get g0
      obtain ⟨p, vs0, rfl, q, _⟩ := r.lstI s
      refine ⟨_, e1, .inl ⟨rfl, vs0, Rd.sq q⟩, Sh, F, ms, env, s, out.bind.imp (fun t e2 h4 y H2 Sh2 s2 r2 a2 => ?_) fun _ _ _ x => x⟩
      unfold appM at h4
      split at h4
      · rename_i l g2
        by_cases hl : l.length < line
        · rw [if_pos hl] at h4
          obtain ⟨w, Ai, e3, r3, hF, nd, ch⟩ := s2.change g2
          rw [e1] at e3; cases e3
          cases r3 with
          | sh h' => cases h'
          | @lst _ vs _ hh hn hs =>
            have hz := line_eq
            refine ⟨p, vs, y, rfl, rfl, hh, by rw [hs.1, ← hz]; exact hl, ?_⟩
            refine (show StEnd (zx X) D Sh F ms H .nx _ from h4) σ _ Sh2 (ch Sh2 (upd H2 p (.lst (vs ++ [y]))) (.lst true (l ++ [fz t])) [p] (fun _ _ z => z) (fun a o z => by rw [upd_ne (ne_of_none z hn)]; exact s2.sub a o z)
              (fun a ha _ => ⟨upd_ne (by simpa using ha), fun z => z⟩) (.lst upd_same hn (hs.append (RpL.nil.cons r2))) (fun a ha => .inl ha) (by simp)) (a2.trans ⟨fun _ _ z => z, fun a ha => upd_ne fun z => hF p (by simp) (z ▸ ha)⟩)
        · rw [if_neg hl] at h4; exact h4.elim
      · exact h4.elim
    · rw [if_neg hq] at out; exact out.elim
/-! ### x[k] = y, x a list -/
theorem setL_some {l l' : List T} {k : Int} {t : T} (h : setL l k t = some l') : ∃ j, ixN l.length k = some j ∧ l' = l.set j t := by
  obtain ⟨j, h1, rfl⟩ := Option.map_eq_some_iff.mp h
  exact ⟨j, h1, rfl⟩
theorem ss_put {i : Nat} {o k : Expr} {ek : E} {p2 : Pos} (ho : PE X o (tVar i)) (hk : SE X c xp ek k) (h : SE X c xp ea a)
    (hs : swapsWithSole [.Subscript o k p2] a pos.line X.env = pure false) (hw : swappedStores [.Subscript o k p2] a X.env = pure none) (h1 : (assignEach [.Subscript o k p2] X.env).map (·.2) = [assign (.Subscript o k p2) X.env])
    (hsub : ∀ v, assign (.Subscript o k p2) X.env v = (do
      let ov ← holding [v] (eval o X.env)
      let iv ← holding [v, ov] (eval k X.env)
      standAt p2
      holding [v, ov, iv] (setItem ov iv v)
      release [v, ov, iv] [])) : PS X (.Assign [.Subscript o k p2] a pos) (rX (zx X) xp ML (ex c (.put i ek ea false))) :=
  psI (ps_asg (pe_frzS h) (pg_sub ho (pe_frzS hk) set_list hsub) hs hw h1) fun D σ H ⟨Sh, F, ms, env, s, hm, out⟩ => by
    have out : Out ((strong (isRd ea) (ev c ea) env).bind fun t e => if isOwnL e i = true then (strong (isRd ek) (ev c ek) e).bind fun z e => (putM1 i (fz z) (kept false t) e).bind fun _ e => R.ok Fl.nx e else .no) _ _ := out
    refine ⟨Sh, F, ms, env, s, out.bind.imp (fun t e1 h2 v H1 Sh1 s1 r1 a1 => ?_) fun _ _ _ x => x⟩
    by_cases hq : isOwnL e1 i = true
    · rw [if_pos hq] at h2
      obtain ⟨l0, g0⟩ := isOwnL_some hq
      obtain ⟨w, A, e3, _⟩ := s1.get g0
      refine ⟨w, e3, Sh1, F, ms, e1, s1, h2.bind.imp (fun z e2 h4 y H2 Sh2 s2 r2 a2 => ?_) fun _ _ _ x => xp.mono [] a1 x⟩
      unfold putM1 at h4
      split at h4
      · rename_i l g2
        split at h4
        · rename_i kk hz
          split at h4
          · rename_i l' hl
            obtain ⟨j, hj, rfl⟩ := setL_some hl
            obtain ⟨w', Ai, e4, r3, hF, nd, ch⟩ := s2.change g2
            rw [e3] at e4; cases e4
            cases r3 with
            | sh h' => cases h'
            | @lst p vs _ hh hn hs =>
              rw [hz] at r2
              cases r2
              refine ⟨p, vs, kk, j, rfl, rfl, hh, by rw [hs.1]; exact hj, ?_⟩
              have hv : Rp (zx X) Sh2 v (fz (kept false t)) := by
                have e5 : kept false t = fz t := by cases t <;> rfl
                rw [e5, r1.fz]
                exact r1.mono a2.grow
              refine (show StEnd (zx X) D Sh F ms H .nx _ from h4) σ _ Sh2 (ch Sh2 (upd H2 p (.lst (vs.set j v))) (.lst true (l.set j (fz (kept false t)))) [p] (fun _ _ z => z) (fun a o z => by rw [upd_ne (ne_of_none z hn)]; exact s2.sub a o z)
                (fun a ha _ => ⟨upd_ne (by simpa using ha), fun z => z⟩) (.lst upd_same hn (hs.set hv j)) (fun a ha => .inl ha) (by simp)) ((a1.trans a2).trans ⟨fun _ _ z => z, fun a ha => upd_ne fun z => hF p (by simp) (z ▸ ha)⟩)
          · exact h4.elim
        · exact h4.elim
      · exact h4.elim
    · rw [if_neg hq] at h2; exact h2.elim
end
end Vi

set_option autoImplicit false
set_option Elab.async false
set_option linter.all false
set_option maxRecDepth 100000
/-! VI: a, b = x, y by way of a tuple. -/
namespace Vi
open PySem PySem.Spec PyProof.Rows L2
section
variable {Z : Rw} {Sh H : Hp} {F F' : List Addr} {ms : List (Nat × V)} {σ : L2.St} {env : Env}
theorem SR.perm (s : SR Z Sh F ms σ H env) (h : F.Perm F') : SR Z Sh F' ms σ H env := by
  obtain ⟨S, h1, h2, h3⟩ := s.slots
  exact ⟨s.len, s.sub, ⟨S, h1, fun i => ⟨(h2 i).1, fun a ha hf => (h2 i).2 a ha (h.mem_iff.mpr hf)⟩, h3⟩, ⟨h.nodup_iff.mp s.fr.1, fun a ha => s.fr.2 a (h.mem_iff.mpr ha)⟩, s.ms⟩
/-- something that nobody holds -/
theorem SR.junk (s : SR Z Sh F ms σ H env) {p : Addr} {o : HO} (h : H p = none) : SR Z Sh F ms σ (upd H p o) env := by
  have hs := s.sh_none h
  refine SR.step (A := []) (A' := []) s (fun _ _ e => e) (fun a u e => ?_) (fun a _ ⟨u, e⟩ => ⟨upd_ne (ne_of_none e h), fun z => z⟩) (fun a ha => by simp at ha) (by simp)
  rw [upd_ne (ne_of_none e hs)]; exact s.sub a u e
end
section
variable {X : Cx} {c : Cfg} {xp : Xp (zx X)} {ML : List Nat} {a b : Expr} {ea eb : E} {pos : Pos}
def gNames : List Nat → TGs
  | [] => gNil
  | i :: is => gCons (gName i) (gNames is)
theorem par_store {Z : Rw} {Sh H : Hp} {F : List Addr} {ms : List (Nat × V)} {Q : L2.St → Hp → Prop} : ∀ (is : List Nat) (l : List T) {vs : List V} {AA : List (List Addr)} {σ σ0 : L2.St} {e : Env}, SR Z Sh (FL AA ++ F) ms σ H e → (∀ p ∈ ms, p.1 ∈ ML) → (∀ i ∈ is, i ∉ ML) → ArgsRel Z σ0 Sh H vs (l.map .inl) AA →
    Out (parM is l e) (fun _ e' => ∀ σ', SR Z Sh F ms σ' H e' → Q σ' H) (fun _ _ _ => False) → gNames is vs σ H Q
  | [], [], vs, AA, σ, σ0, e, s, hm, hML, r, out => by
    rw [List.map_nil] at r
    cases r
    exact ⟨rfl, (show ∀ σ', _ → Q σ' H from out) σ s⟩
  | [], _ :: _, _, _, _, _, _, _, _, _, _, out => out.elim
  | _ :: _, [], _, _, _, _, _, _, _, _, _, out => out.elim
  | i :: is, t :: l, vs0, AA0, σ, σ0, e, s, hm, hML, r, out => by
    rw [List.map_cons] at r
    cases r with
    | @val v _ A vs _ AA r1 rr =>
      have out : Out ((setVar i t e).bind fun _ e => parM is l e) _ _ := out
      obtain ⟨hi, out⟩ := setVar_out out
      have s1 : SR Z Sh (A ++ (FL AA ++ F)) ms σ H e := by
        refine s.perm ?_
        rw [FL]
        refine (List.Perm.append_right F List.perm_append_comm).trans ?_
        rw [List.append_assoc]
      have s2 := s1.store r1 hi fun p hp z => hML i List.mem_cons_self (z ▸ hm p hp)
      exact ⟨v, vs, rfl, par_store is l s2 hm (fun j hj => hML j (List.mem_cons_of_mem _ hj)) rr out⟩
theorem parM_len : ∀ {is : List Nat} {l : List T} {e : Env} {P : Unit → Env → Prop} {Y : Nat → T → Env → Prop}, Out (parM is l e) P Y → is.length = l.length
  | [], [], _, _, _, _ => rfl
  | [], _ :: _, _, _, _, h => h.elim
  | _ :: _, [], _, _, _, h => h.elim
  | i :: is, t :: l, e, P, Y, h => by
    have h : Out ((setVar i t e).bind fun _ e => parM is l e) P Y := h
    obtain ⟨_, h⟩ := setVar_out h
    rw [List.length_cons, List.length_cons, parM_len h]
theorem parM_noex : ∀ {is : List Nat} {l : List T} {e : Env} {P : Unit → Env → Prop} {Y Y' : Nat → T → Env → Prop}, Out (parM is l e) P Y → Out (parM is l e) P Y'
  | [], [], _, _, _, _, h => h
  | [], _ :: _, _, _, _, _, h => h.elim
  | _ :: _, [], _, _, _, _, h => h.elim
  | i :: is, t :: l, e, P, Y, Y', h => by
    have h : Out ((setVar i t e).bind fun _ e => parM is l e) P Y := h
    show Out ((setVar i t e).bind fun _ e => parM is l e) P Y'
    unfold setVar at h ⊢
    by_cases hi : i < e.length
    · rw [if_pos hi] at h ⊢
      exact parM_noex (is := is) (l := l) h
    · rw [if_neg hi] at h; exact h.elim
theorem ss_parT {is : List Nat} {es : Es} {ts vs : List Expr} {kt k2 : Nat} {pt pt2 : Pos} (hc : X.calm = true) (ha : PA X vs (rK (zx X) xp (evk c es))) (hg : PGs X ts (gNames is)) (hn : (assignEach ts X.env).length = is.length) (hst : (assignEach ts X.env).findIdx? (·.1) = none)
    (hML : ∀ i ∈ is, i ∉ ML) (hl : is.length ≤ 1000) (hs : swapsWithSole [.Tuple ts kt pt] (.Tuple vs k2 pt2) pos.line X.env = pure false) (hw : swappedStores [.Tuple ts kt pt] (.Tuple vs k2 pt2) X.env = pure none) :
    PS X (.Assign [.Tuple ts kt pt] (.Tuple vs k2 pt2) pos) (rX (zx X) xp ML (ex c (.par is es))) := psI (ps_asg (pe_tup ha) (pg_tup hc hg hn hst) hs hw rfl) fun D σ H ⟨Sh, F, ms, env, s, hm, out⟩ => by
  have out : Out ((evk c es env).bind fun l e => (parM is l e).bind fun _ e => R.ok Fl.nx e) _ _ := out
  refine ⟨Sh, F, ms, env, s, out.bind.imp (fun l e1 h1 vs H1 Sh1 AA s1 r1 a1 => ?_) fun _ _ _ x => x⟩
  have h2 := h1.bind
  have hlen := parM_len h2
  have hvl : vs.length = is.length := by rw [r1.len.1, List.length_map, hlen]
  refine ⟨by have := sizeLine_eq; omega, fun p hp => ⟨p, vs, rfl, .inl (.inl upd_same), hvl, ?_⟩⟩
  have s2 := s1.junk (o := .tup vs) hp
  have a2 : Aft Sh1 (FL AA ++ F) H1 Sh1 (upd H1 p (.tup vs)) := s1.aft_upd hp
  have r2 := r1.stay a2 (fun x hx => List.mem_append_left _ hx) (fun x hx => (s2.fr.2 x hx).1)
  exact par_store is l s2 hm hML r2 ((parM_noex h2).imp (fun _ e2 h3 σ' s3 => (show StEnd (zx X) D Sh F ms H .nx e2 from h3) σ' _ Sh1 s3 (a1.trans (a2.less fun x hx => List.mem_append_right _ hx))) fun _ _ _ x => x)
end
end Vi

set_option autoImplicit false
set_option Elab.async false
set_option linter.all false
set_option maxRecDepth 100000
/-! VI: the check that an IR term is a def's text. -/
namespace Vi
open PySem PySem.Spec PyProof.Rows L2
/-- what the check sees of a def and its program -/
structure CC where
  N : List Str
  sc : Scope
  fn : Str → Bool
  fs : List Str
  gs : List (Option Str)
  ds : List (Option Str)
  ML : List Nat
def CC.kd (cc : CC) (x : Str) : Option NameKind := cc.sc.names.lookup x
def glC (cc : CC) (x : Str) : Bool := decide (cc.kd x = some .globalImplicit) && !(x == ("__debug__" : Str)) && !decide (x = ("__name__" : Str))
def visC (cc : CC) (x : Str) : Bool := (match cc.kd x with
  | some .local => true
  | some .cell => true
  | some .free => true
  | _ => false) && !(x == ("__debug__" : Str)) && !(x == ("__classdict__" : Str))
def locC (cc : CC) (x : Str) : Bool := match cc.kd x with
  | some .local => true
  | some .cell => cc.fn x
  | _ => false
def varC (cc : CC) (i : Nat) (x : Str) : Bool := decide (cc.N[i]? = some x) && visC cc x
def varE (cc : CC) (i : Nat) : Expr → Bool
  | .Name x _ => varC cc i x
  | _ => false
def cstC : T → Const → Bool
  | .int i, .int j => decide (i = j)
  | .str s, .str x => decide (s.toArray = x.cps) && decide (s.length ≤ 1000000) && s.all fun c => decide (c < 1114112)
  | .non, .none => true
  | .bl b, .bool d => b == d
  | _, _ => false
def opC : Bop → Operator → Bool
  | .add, .Add => true
  | .sub, .Sub => true
  | .mul, .Mult => true
  | .fdiv, .FloorDiv => true
  | .mod, .Mod => true
  | .pow, .Pow => true
  | _, _ => false
def copC : Cop → CmpOp → Bool
  | .eq, .Eq => true
  | .ne, .NotEq => true
  | .lt, .Lt => true
  | .le, .LtE => true
  | .gt, .Gt => true
  | .ge, .GtE => true
  | .inn, .In => true
  | .nin, .NotIn => true
  | _, _ => false
def notSet : Expr → Bool
  | .Set _ _ _ => false
  | _ => true
def notSlice : Expr → Bool
  | .Slice _ _ _ _ => false
  | _ => true
def b1N : B1 → Option Str
  | .len => some "len"
  | .int => some "int"
  | .abs => some "abs"
  | .list => some "list"
  | .tuple => some "tuple"
  | .all => some "all"
  | .any => some "any"
  | .sum => some "sum"
  | .min => some "min"
  | .max => some "max"
  | .bool => some "bool"
  | _ => none
def b2N : B2 → Str
  | .min => "min"
  | .max => "max"
def mtN : Mt → Option Str
  | .join => some "join"
  | .index => some "index"
  | .split => none
def tyN : Ty → Str
  | .int => "int"
  | .bool => "bool"
  | .str => "str"
  | .tuple => "tuple"
  | .list => "list"
/-- the scope of a block -/
def relabelS (scope sc : Scope) : Scope := { scope with names := scope.names.map fun (n, k) => if k == NameKind.free && sc.kind == .function && sc.names.lookup n == some .cell then (n, NameKind.cell) else (n, k) }
def CC.blk (cc : CC) (scope : Scope) : CC := { cc with sc := relabelS scope cc.sc, fn := fun x => scope.names.lookup x == some .cell, ML := [] }
mutual
def chkT (cc : CC) : Tg → Expr → Bool
  | .nm i => fun a => match a with
    | .Name x _ => decide (cc.N[i]? = some x) && locC cc x && !cc.ML.contains i
    | _ => false
  | .tp ts => fun a => match a with
    | .Tuple xs _ _ => chkTs cc ts xs
    | _ => false
def chkTs (cc : CC) : Tgs → List Expr → Bool
  | .nil => fun xs => match xs with
    | [] => true
    | _ => false
  | .cons t ts => fun xs => match xs with
    | x :: r => chkT cc t x && chkTs cc ts r && notStar x
    | _ => false
end
def neEs : Es → Bool
  | .nil => false
  | _ => true
/-- the names of a block's own slots -/
def ownOf (N : List Str) (own : List Nat) : List (Str × Nat) := own.filterMap fun i => (N[i]?).map fun x => (x, i)
mutual
def chkE (cc : CC) : E → Expr → Bool
  | .var i => varE cc i
  | .rd i => varE cc i
  | .cst t => fun a => match a with
    | .Constant k _ _ => cstC t k
    | _ => false
  | .glo g => fun a => match a with
    | .Name x _ => decide (cc.gs[g]? = some (some x)) && glC cc x
    | _ => false
  | .tup es => fun a => match a with
    | .Tuple xs _ _ => chkEs cc es xs && decide (esLen es ≤ 1000)
    | _ => false
  | .lst es => fun a => match a with
    | .List xs _ => chkEs cc es xs && decide (esLen es ≤ 1000)
    | _ => false
  | .dct es => fun a => match a with
    | .Dict ks vs _ => chkP cc es ks vs && decide (ks.length ≤ 15)
    | _ => false
  | .bin op x y => fun a => match a with
    | .BinOp u o v _ => opC op o && chkE cc x u && chkE cc y v
    | _ => false
  | .neg x => fun a => match a with
    | .UnaryOp .USub u _ => chkE cc x u
    | _ => false
  | .cmp op x y => fun a => match a with
    | .Compare u [o] [v] _ => copC op o && chkE cc x u && chkE cc y v && notSet v
    | _ => false
  | .chn o1 o2 x y z => fun a => match a with
    | .Compare u [p1, p2] [v, w] _ => copC o1 p1 && copC o2 p2 && chkE cc x u && chkE cc y v && chkE cc z w && notSet w
    | _ => false
  | .isN x => fun a => match a with
    | .Compare u [.Is] [.Constant .none _ _] _ => chkE cc x u
    | _ => false
  | .notN x => fun a => match a with
    | .Compare u [.IsNot] [.Constant .none _ _] _ => chkE cc x u
    | _ => false
  | .and es => fun a => match a with
    | .BoolOp .And xs _ => chkB cc es xs && neEs es
    | _ => false
  | .or es => fun a => match a with
    | .BoolOp .Or xs _ => chkB cc es xs && neEs es
    | _ => false
  | .not x => fun a => match a with
    | .UnaryOp .Not u _ => chkE cc x u
    | _ => false
  | .ite q x y => fun a => match a with
    | .IfExp u v w _ => chkE cc q u && chkE cc x v && chkE cc y w
    | _ => false
  | .idx x y => fun a => match a with
    | .Subscript u v _ => chkE cc x u && chkE cc y v && notSlice v
    | _ => false
  | .sli x lo hi => fun a => match a with
    | .Subscript u (.Slice l h none _) _ => chkE cc x u && chkO cc lo l && chkO cc hi h
    | _ => false
  | .call f as => fun a => match a with
    | .Call (.Name x _) xs [] _ => decide (cc.fs[f]? = some x) && glC cc x && chkA cc as xs
    | _ => false
  | .b1 f x => fun a => match a with
    | .Call (.Name n _) [u] [] _ => decide (b1N f = some n) && glC cc n && chkE cc x u && notStar u
    | _ => false
  | .b2 f x y => fun a => match a with
    | .Call (.Name n _) [u, v] [] _ => decide (b2N f = n) && glC cc n && chkE cc x u && chkE cc y v && notStar u && notStar v
    | _ => false
  | .mt f x y => fun a => match a with
    | .Call (.Attribute u n apos) [v] [] pos => decide (mtN f = some n) && chkE cc x u && chkE cc y v && notSuper u && notStar v && (apos.endLine == pos.line)
    | _ => false
  | .get x y z => fun a => match a with
    | .Call (.Attribute u n apos) [v, w] [] pos => decide (n = ("get" : Str)) && chkE cc x u && chkE cc y v && chkE cc z w && notSuper u && notStar v && notStar w && (apos.endLine == pos.line)
    | _ => false
  | .isi ty x => fun a => match a with
    | .Call (.Name n _) [u, .Name m _] [] _ => decide (n = ("isinstance" : Str)) && decide (m = tyN ty) && glC cc n && glC cc m && chkE cc x u && notStar u
    | _ => false
  | .lc elt tg it ifs own => fun a => match a with
    | .ListComp e [⟨t, i, fs, 0⟩] scope _ => chkI cc it i && notSet i && blkC cc.N cc.sc scope (ownOf cc.N own) && decide ((ownOf cc.N own).map (·.2) = own) && chkT (cc.blk scope) tg t && chkF (cc.blk scope) ifs fs && chkE (cc.blk scope) elt e
    | _ => false
  | .lc2 elt tg it ifs tg2 it2 ifs2 own own2 => fun a => match a with
    | .ListComp e [⟨t, i, fs, 0⟩, ⟨t2, i2, fs2, 0⟩] scope _ => chkI cc it i && notSet i && notSet i2 && blkC cc.N cc.sc scope (ownOf cc.N own) && decide ((ownOf cc.N own).map (·.2) = own) && own2.all own.contains && chkT (cc.blk scope) tg t && chkF (cc.blk scope) ifs fs && chkI (cc.blk scope) it2 i2 && chkT (cc.blk scope) tg2 t2 && chkF (cc.blk scope) ifs2 fs2 && chkE (cc.blk scope) elt e
    | _ => false
  | .gdct g => fun a => match a with
    | .Call (.Name x _) [.Name n _] [] _ => decide (x = ("dict" : Str)) && glC cc x && decide (cc.ds[g]? = some (some n)) && glC cc n
    | _ => false
  | _ => fun _ => false
def chkEs (cc : CC) : Es → List Expr → Bool
  | .nil => fun xs => match xs with
    | [] => true
    | _ => false
  | .cons e es => fun xs => match xs with
    | x :: r => chkE cc e x && chkEs cc es r && notStar x
    | _ => false
/-- operands of and, or -/
def chkB (cc : CC) : Es → List Expr → Bool
  | .nil => fun xs => match xs with
    | [] => true
    | _ => false
  | .cons e es => fun xs => match xs with
    | x :: r => chkE cc e x && chkB cc es r
    | _ => false
/-- pairs of a display: a key's turn -/
def chkP (cc : CC) : Es → List (Option Expr) → List Expr → Bool
  | .nil => fun ks vs => match ks, vs with
    | [], [] => true
    | _, _ => false
  | .cons k es => fun ks vs => match ks with
    | some x :: ks => chkE cc k x && chkQ cc es ks vs
    | _ => false
/-- a value's turn -/
def chkQ (cc : CC) : Es → List (Option Expr) → List Expr → Bool
  | .nil => fun _ _ => false
  | .cons v es => fun ks vs => match vs with
    | y :: vs => chkE cc v y && chkP cc es ks vs
    | _ => false
/-- tests of a clause: none or one -/
def chkF (cc : CC) : Es → List Expr → Bool
  | .nil => fun xs => match xs with
    | [] => true
    | _ => false
  | .cons e es => fun xs => match es, xs with
    | .nil, [x] => chkE cc e x
    | _, _ => false
def chkO (cc : CC) : Eo → Option Expr → Bool
  | .non => fun a => match a with
    | none => true
    | _ => false
  | .som e => fun a => match a with
    | some x => chkE cc e x
    | _ => false
def chkA (cc : CC) : As → List Expr → Bool
  | .nil => fun xs => match xs with
    | [] => true
    | _ => false
  | .val e as => fun xs => match xs with
    | x :: r => chkE cc e x && chkA cc as r && notStar x
    | _ => false
  | .mut i as => fun xs => match xs with
    | x :: r => varE cc i x && chkA cc as r && notStar x
    | _ => false
  | .tmp e as => fun xs => match xs with
    | x :: r => chkE cc e x && chkA cc as r && notStar x
    | _ => false
def chkI (cc : CC) : Vi.It → Expr → Bool
  | .of e => chkE cc e
  | .rng e => fun a => match a with
    | .Call (.Name n _) [u] [] _ => decide (n = ("range" : Str)) && glC cc n && chkE cc e u && notStar u
    | _ => false
  | .rng2 e f => fun a => match a with
    | .Call (.Name n _) [u, v] [] _ => decide (n = ("range" : Str)) && glC cc n && chkE cc e u && chkE cc f v && notStar u && notStar v
    | _ => false
  | _ => fun _ => false
end
end Vi

set_option autoImplicit false
set_option Elab.async false
set_option linter.all false
set_option maxRecDepth 100000
/-! VI: the check is sound, expressions. -/
namespace Vi
open PySem PySem.Spec PyProof.Rows L2
/-- the built-in names that the check knows, and what they are -/
def bltF : List (Str × String) := [("len", "len"), ("abs", "abs"), ("all", "all"), ("any", "any"), ("sum", "sum"), ("min", "min"), ("max", "max"), ("isinstance", "isinstance")]
def bltT : List (Str × String) := [("int", "int"), ("list", "list"), ("tuple", "tuple"), ("bool", "bool"), ("str", "str"), ("dict", "dict")]
theorem boot_F : ∀ p ∈ bltF, bootBuiltins p.1 = some (.builtin p.2) ∧ p.1 ≠ Str.ofString "__name__" ∧ (p.1 == Str.ofString "__debug__") = false := by decide +kernel
theorem boot_T : ∀ p ∈ bltT, bootBuiltins p.1 = some (.type p.2) ∧ p.1 ≠ Str.ofString "__name__" ∧ (p.1 == Str.ofString "__debug__") = false := by decide +kernel
/-- no exception leaves a def -/
def CXn : CXT := fun _ _ _ _ _ _ => False
/-- a module's dict with ints and texts as keys -/
def KDk (P : Program) (w : World) (K : PySem.W.Frag) (d : Addr) (kvs : List (Key × V)) : Prop := (d == sysModules) = false ∧ kvs.length ≤ sizeLine ∧ ∀ h : Heap, K.In h → ∃ vs, KV kvs vs ∧ h.DictOf (mixKind P w) d vs
/-- a program's defs and constants, as this context has them -/
structure GoodC (cc : CC) (X : Cx) (c : Cfg) : Prop where
  N : X.N = cc.N
  nd : cc.N.Nodup
  sc : X.env.scope = cc.sc
  calm : X.calm = true
  units : X.A.units + 65 < cLine
  fn : ∀ x, cc.fn x = true → X.fn x = true
  bf : ∀ p ∈ bltF, X.mg p.1 = none
  bt : ∀ p ∈ bltT, X.mg p.1 = none
  rng : X.mg "range" = none
  call : ∀ (f : Nat) (x : Str), cc.fs[f]? = some x → ∃ k fa fd ps np, FnOk X.prog X.w X.K X.mg X.base CXn k fa fd ps (spV (zx X) np (c.call f)) ∧ (∀ ts, c.call f ts ≠ .no → ts.length = np) ∧ Room k X.A ∧ X.mg x = some (.ref fa) ∧ PySem.W.keepIn X.K (.ref fa) = true ∧ Binds X.K fd ps []
  glo : ∀ (g : Nat) (x : Str), cc.gs[g]? = some (some x) → ∃ t v u, c.glos[g]? = some t ∧ X.mg x = some u ∧ RelV v u ∧ ∀ Sh, Rp (zx X) Sh v t
  gdc : ∀ (g : Nat) (x : Str), cc.ds[g]? = some (some x) → ∃ o l d kvs, c.glos[g]? = some (.dic o l) ∧ X.mg x = some (.ref d) ∧ KDk X.prog X.w X.K d kvs ∧ kvs.map (fun p => keyT p.1) = l.map (·.1) ∧ ∀ Sh, RpL (zx X) Sh (kvs.map (·.2)) (l.map (·.2))
section
variable {cc : CC} {X : Cx} {c : Cfg}
theorem GoodC.blk (G : GoodC cc X c) (s : Shared) (H : Hp) (scope : Scope) (C : Addr) (cl : List (Str × Addr)) (fp : List Addr) : GoodC (cc.blk scope) (X.blk s H scope (compEnvC scope cl C X.env) fp) c where
  N := G.N
  nd := G.nd
  sc := by
    show relabel scope X.env = relabelS scope cc.sc
    rw [← G.sc]
    rfl
  calm := G.calm
  units := G.units
  fn := fun x h => h
  bf := G.bf
  bt := G.bt
  rng := G.rng
  call := G.call
  glo := G.glo
  gdc := G.gdc
theorem GoodC.gl (G : GoodC cc X c) {x : Str} (h : glC cc x = true) : Gl X x ∧ (x == ("__debug__" : Str)) = false ∧ x ≠ Str.ofString "__name__" := by
  unfold glC at h
  simp only [Bool.and_eq_true, decide_eq_true_eq, Bool.not_eq_true', decide_eq_false_iff_not] at h
  obtain ⟨⟨h1, h2⟩, h3⟩ := h
  refine ⟨?_, h2, h3⟩
  show X.env.scope.names.lookup x = _
  rw [G.sc]
  exact h1
theorem GoodC.vis (G : GoodC cc X c) {x : Str} (h : visC cc x = true) : Vis X.env.scope x ∧ (x == ("__debug__" : Str)) = false ∧ (x == ("__classdict__" : Str)) = false := by
  unfold visC at h
  simp only [Bool.and_eq_true, Bool.not_eq_true'] at h
  obtain ⟨⟨h1, h2⟩, h3⟩ := h
  refine ⟨?_, h2, h3⟩
  unfold Vis
  rw [G.sc]
  unfold CC.kd at h1
  split at h1
  · rename_i e; exact .inl e
  · rename_i e; exact .inr (.inl e)
  · rename_i e; exact .inr (.inr e)
  · cases h1
theorem GoodC.var (G : GoodC cc X c) {i : Nat} {a : Expr} (h : varE cc i a = true) : PE X a (tVar i) ∧ ∃ x p, a = .Name x p := by
  cases a with
  | Name x p =>
    have h : varC cc i x = true := h
    unfold varC at h
    rw [Bool.and_eq_true, decide_eq_true_eq] at h
    obtain ⟨h1, h2⟩ := h
    obtain ⟨h3, h4, h5⟩ := G.vis h2
    exact ⟨pe_var (by rw [G.N]; exact h1) h3 h4 h5, x, p, rfl⟩
  | _ => cases h
theorem GoodC.bfn (G : GoodC cc X c) {x : Str} {id : String} (hm : (x, id) ∈ bltF) (h : glC cc x = true) : Bf X x id :=
  let ⟨b1, b2, b3⟩ := boot_F _ hm
  ⟨(G.gl h).1, G.bf _ hm, b1, b2, b3⟩
theorem GoodC.bty (G : GoodC cc X c) {x : Str} {T : String} (hm : (x, T) ∈ bltT) (h : glC cc x = true) : Bt X x T :=
  let ⟨b1, b2, b3⟩ := boot_T _ hm
  ⟨(G.gl h).1, G.bt _ hm, b1, b2, b3⟩
theorem GoodC.loc (G : GoodC cc X c) {x : Str} (h : locC cc x = true) : L2.Loc X.env.scope x ∧ (X.fn x = true ∨ X.env.scope.names.lookup x = some .local) := by
  unfold locC CC.kd at h
  unfold L2.Loc
  rw [G.sc]
  split at h
  · rename_i e; exact ⟨.inl e, .inr e⟩
  · rename_i e; exact ⟨.inr e, .inl (G.fn x h)⟩
  · cases h
/-! ### targets -/
theorem assignEach_cons {a : Expr} {r : List Expr} {env : PySem.Env} (h : notStar a = true) : assignEach (a :: r) env = (false, assign a env) :: assignEach r env := by
  cases a <;> first | rfl | cases h
mutual
theorem ok_T : ∀ (t : Tg) (cc : CC) (X : Cx) (a : Expr), GoodC cc X c → chkT cc t a = true → PG X a (rTg (zx X) cc.ML t)
  | .nm i, cc, X, a, G, h => by
    unfold chkT at h
    split at h
    · rename_i x p
      simp only [Bool.and_eq_true, decide_eq_true_eq, Bool.not_eq_true'] at h
      obtain ⟨⟨h1, h2⟩, h3⟩ := h
      obtain ⟨q1, q2⟩ := G.loc h2
      exact tg_nm (by rw [G.N]; exact G.nd) (by rw [G.N]; exact h1) q1 q2 (by simpa using h3)
    · cases h
  | .tp ts, cc, X, a, G, h => by
    unfold chkT at h
    split at h
    · rename_i xs k p
      obtain ⟨q1, q2, q3⟩ := ok_Ts ts cc X xs G h
      exact tg_tp G.calm q1 q2 q3
    · cases h
theorem ok_Ts : ∀ (ts : Tgs) (cc : CC) (X : Cx) (xs : List Expr), GoodC cc X c → chkTs cc ts xs = true → PGs X xs (rTgs (zx X) cc.ML ts) ∧ (assignEach xs X.env).length = tgsLen ts ∧ (assignEach xs X.env).findIdx? (·.1) = none
  | .nil, cc, X, xs, G, h => by
    unfold chkTs at h
    split at h
    · exact ⟨tgs_nil, rfl, rfl⟩
    · cases h
  | .cons t ts, cc, X, xs, G, h => by
    unfold chkTs at h
    split at h
    · rename_i x r
      simp only [Bool.and_eq_true] at h
      obtain ⟨⟨h1, h2⟩, h3⟩ := h
      obtain ⟨q1, q2, q3⟩ := ok_Ts ts cc X r G h2
      have e := assignEach_cons (r := r) (env := X.env) h3
      refine ⟨tgs_cons (ok_T t cc X x G h1) q1 (by rw [e]; rfl), by rw [e, List.length_cons, q2]; rfl, ?_⟩
      rw [e, List.findIdx?_cons]
      simp [q3]
    · cases h
end
/-! ### small parts -/
theorem ok_cst {t : T} {k : Const} {j : Nat} {p : Pos} (h : cstC t k = true) : SE X c (Xp.none (zx X)) (.cst t) (.Constant k j p) := by
  unfold cstC at h
  split at h
  · rw [decide_eq_true_eq] at h
    subst h
    exact se_cst pe_int (fun _ => .int _) (fun _ => rfl)
  · rename_i s x
    simp only [Bool.and_eq_true, decide_eq_true_eq, List.all_eq_true] at h
    obtain ⟨⟨h1, h2⟩, h3⟩ := h
    have e : x = sOf s := by cases x; simp only [sOf]; simp only at h1; rw [h1]
    rw [e]
    exact se_cst pe_str (fun _ => .str s ⟨by show s.length ≤ 16777216; omega, fun ch hc => by simpa using h3 ch hc⟩) (fun _ => rfl)
  · exact se_cst pe_non (fun _ => .non) (fun _ => rfl)
  · rename_i b d
    have e : b = d := by simpa using h
    subst e
    exact se_cst pe_bl (fun _ => .bl _) (fun _ => rfl)
  · cases h
theorem noSet {b : Expr} (h : notSet b = true) : ∀ es k p, b ≠ .Set es k p := fun es k p e => by subst e; cases h
theorem noFold {i : Expr} (h : notSet i = true) (env : PySem.Env) (x : Value) : foldedSetIterable i env x = pure x := by
  cases i <;> first | rfl | cases h
theorem plain_ix {b : Expr} (h : notSlice b = true) : PlainIx b := fun o i => by
  cases b <;> first | rfl | cases h
theorem ok_bin {op : Bop} {o : Operator} {x y : E} {u v : Expr} {p : Pos} (h : opC op o = true) (hx : SE X c (Xp.none (zx X)) x u) (hy : SE X c (Xp.none (zx X)) y v) : SE X c (Xp.none (zx X)) (.bin op x y) (.BinOp u o v p) := by
  unfold opC at h
  split at h
  · exact se_bin op_addAll ok_add hx hy
  · exact se_bin op_sub ok_sub hx hy
  · exact se_bin op_mulAll ok_mul hx hy
  · exact se_bin op_fdiv ok_fdiv hx hy
  · exact se_bin op_mod ok_mod hx hy
  · exact se_bin op_pow ok_pow hx hy
  · cases h
end
end Vi

set_option autoImplicit false
set_option Elab.async false
set_option linter.all false
set_option maxRecDepth 100000
/-! VI: the check is sound, expressions. -/
namespace Vi
open PySem PySem.Spec PyProof.Rows L2
section
variable {c : Cfg} {cc : CC} {X : Cx}
/-- comparisons: the operator's rule -/
theorem ok_cop {op : Cop} {o : CmpOp} (G : GoodC cc X c) (h : copC op o = true) : ∃ r : R2, OpR X (compareOp o) r ∧ Ok2 (zx X) r (fun x y => (cmpT op x y).map .bl) := by
  have hu := G.units
  unfold copC at h
  split at h
  · exact ⟨_, op_eqD (by omega), ok_eq⟩
  · exact ⟨_, op_neD (by omega), ok_ne⟩
  · exact ⟨_, op_ltA, ok_lt⟩
  · exact ⟨_, op_leA, ok_le⟩
  · exact ⟨_, op_gtA, ok_gt⟩
  · exact ⟨_, op_geA, ok_ge⟩
  · exact ⟨_, op_inZ hu, ok_inn⟩
  · exact ⟨_, op_notInZ hu, ok_nin⟩
  · cases h
theorem ok_b1 {f : B1} {n : Str} {x : E} {u : Expr} {p pos : Pos} (G : GoodC cc X c) (hn : b1N f = some n) (hg : glC cc n = true) (hx : SE X c (Xp.none (zx X)) x u) (hs : notStar u = true) : SE X c (Xp.none (zx X)) (.b1 f x) (.Call (.Name n p) [u] [] pos) := by
  have hc := G.calm
  unfold b1N at hn
  split at hn
  · cases hn; exact se_call1 (bf_call (G.bfn (id := "len") (by decide) hg) hs cr_len) ok_len hx hs
  · cases hn; exact se_call1 (bt_call (G.bty (T := "int") (by decide) hg) hs cr_int) ok_int hx hs
  · cases hn; exact se_call1 (bf_call (G.bfn (id := "abs") (by decide) hg) hs cr_abs) ok_abs hx hs
  · cases hn; exact se_call1 (bt_call (G.bty (T := "list") (by decide) hg) hs (cr_list hc)) ok_list hx hs
  · cases hn; exact se_call1 (bt_call (G.bty (T := "tuple") (by decide) hg) hs cr_tuple) ok_tuple hx hs
  · cases hn; exact se_call1 (bf_call (G.bfn (id := "all") (by decide) hg) hs (cr_allZ hc)) ok_all hx hs
  · cases hn; exact se_call1 (bf_call (G.bfn (id := "any") (by decide) hg) hs (cr_anyZ hc)) ok_any hx hs
  · cases hn; exact se_call1 (bf_call (G.bfn (id := "sum") (by decide) hg) hs (cr_sumZ hc)) ok_sum hx hs
  · cases hn; exact se_call1 (bf_call (G.bfn (id := "min") (by decide) hg) hs (cr_minZ hc)) ok_min hx hs
  · cases hn; exact se_call1 (bf_call (G.bfn (id := "max") (by decide) hg) hs (cr_maxZ hc)) ok_max hx hs
  · cases hn; exact se_call1 (bt_call (G.bty (T := "bool") (by decide) hg) hs cr_bool) ok_bool hx hs
  · cases hn
theorem ok_b2 {f : B2} {n : Str} {x y : E} {u v : Expr} {p pos : Pos} (G : GoodC cc X c) (hn : b2N f = n) (hg : glC cc n = true) (hx : SE X c (Xp.none (zx X)) x u) (hy : SE X c (Xp.none (zx X)) y v) (hs : notStar u = true) (hs2 : notStar v = true) :
    SE X c (Xp.none (zx X)) (.b2 f x y) (.Call (.Name n p) [u, v] [] pos) := by
  have hc := G.calm
  subst hn
  cases f with
  | min => exact se_call2 (bf_call2 (G.bfn (id := "min") (by decide) hg) hs hs2 (cr_min2 hc)) ok_min2 hx hy hs hs2
  | max => exact se_call2 (bf_call2 (G.bfn (id := "max") (by decide) hg) hs hs2 (cr_max2 hc)) ok_max2 hx hy hs hs2
theorem ok_mt {f : Mt} {n : Str} {x y : E} {u v : Expr} {apos pos : Pos} (hn : mtN f = some n) (hx : SE X c (Xp.none (zx X)) x u) (hy : SE X c (Xp.none (zx X)) y v) (h1 : notSuper u = true) (h2 : notStar v = true) (h3 : (apos.endLine == pos.line) = true) :
    SE X c (Xp.none (zx X)) (.mt f x y) (.Call (.Attribute u n apos) [v] [] pos) := by
  unfold mtN at hn
  split at hn
  · cases hn; exact se_mt mo_join ok_join hx hy h1 h2 h3
  · cases hn; exact se_mt mo_index ok_index hx hy h1 h2 h3
  · cases hn
theorem hexN {Z : Rw} : ∀ Sh F ms H k d e, ¬ (Xp.none Z).p Sh F ms H k d e := fun _ _ _ _ _ _ _ h => h
theorem nodbg {x : Str} (h : (x == ("__debug__" : Str)) = false) : (x == Str.ofString "__debug__") = false := h
theorem m2_of {o e f : Expr} {m : Str} {apos cpos : Pos} (h1 : notSuper o = true) (h2 : notStar e = true) (h3 : notStar f = true) (h4 : (apos.endLine == cpos.line) = true) : M2 X o m apos e f cpos := by
  have e2 : starEach [f] X.env = [(false, eval f X.env)] := star_of h3
  have e1 : starEach [e, f] X.env = [(false, eval e X.env), (false, eval f X.env)] := (star_of h2).trans (by rw [e2])
  refine ⟨base_of h1, ?_, h4, ?_⟩
  · rw [e1]; rfl
  · rw [e1]; rfl
/-- a module's dict is copied -/
theorem cr_dictK : CallR X (.type "dict") (fun xs H Q => ∃ (d : Addr) (kvs : List (Key × V)), xs = [.ref d] ∧ KDk X.prog X.w X.K d kvs ∧ ∀ p, H p = none → Q (.ref p) (upd H p (.dK kvs))) := by
  intro pins s σ H xs us Q I r q
  obtain ⟨a, kvs, ex, ⟨lo, z, hd⟩, q⟩ := q
  subst ex
  obtain ⟨u, eu, rx⟩ := vals1 r
  subst eu
  cases rx
  obtain ⟨vs, rel, dd⟩ := hd s.heap I.kIn
  refine kt_call_dict lo dd (by rw [← rel.length]; exact z) fun h' d' hs => ?_
  have hm : (s.heap.objs.size == sysModules) = false := beq_eq_false_iff_ne.mpr (Nat.ne_of_gt I.big)
  exact ⟨.ref s.heap.objs.size, upd H s.heap.objs.size (.dK kvs), I.laid (t' := s.toks) (fun b u e => (hs.2 b (Nat.ne_of_lt (Heap.lt_size e))).trans (Heap.get?_push_of_some _ e)) (Nat.le_refl _)
    (show ObjOk X.prog X.w _ _ _ (.dK kvs) from ⟨z, hm, vs, rel, d'⟩), rfl, q _ (I.hok.fresh (Nat.le_refl _))⟩
theorem ok_gdct {g : Nat} {x n : Str} {p q pos : Pos} (G : GoodC cc X c) (hx : x = ("dict" : Str)) (hg : glC cc x = true) (hn : cc.ds[g]? = some (some n)) (hgn : glC cc n = true) : SE X c (Xp.none (zx X)) (.gdct g) (.Call (.Name x p) [.Name n q] [] pos) := by
  subst hx
  obtain ⟨o, l, d, kvs, h1, h2, h3, h4, h5⟩ := G.gdc g n hn
  refine se_gdct h1 (peI (bt_call (G.bty (T := "dict") (by decide) hg) rfl cr_dictK (pa_cons (pe_glob (G.gl hgn).1 h2 (v := .ref d) rfl (G.gl hgn).2.1) pa_nil rfl)) fun σ H Q h => ⟨d, kvs, rfl, h3, h⟩) h4 h5
theorem ok_isi {ty : Ty} {n m : Str} {e : E} {u : Expr} {p q pos : Pos} (G : GoodC cc X c) (hn : n = ("isinstance" : Str)) (hm : m = tyN ty) (h1 : glC cc n = true) (h2 : glC cc m = true) (he : SE X c (Xp.none (zx X)) e u) (hs : notStar u = true) :
    SE X c (Xp.none (zx X)) (.isi ty e) (.Call (.Name n p) [u, .Name m q] [] pos) := by
  subst hn hm
  refine se_isi (G.bfn (id := "isinstance") (by decide) h1) ?_ he hs
  cases ty
  · exact G.bty (T := "int") (by decide) h2
  · exact G.bty (T := "bool") (by decide) h2
  · exact G.bty (T := "str") (by decide) h2
  · exact G.bty (T := "tuple") (by decide) h2
  · exact G.bty (T := "list") (by decide) h2
theorem blk_own {N : List Str} {sc scope : Scope} {own : List Nat} (h : blkC N sc scope (ownOf N own) = true) (h2 : (ownOf N own).map (·.2) = own) : ∃ own' : List (Str × Nat), BlkOk N sc scope own' ∧ own'.map (·.2) = own := ⟨_, blkOk_by h, h2⟩
end
theorem any_of {X : Cx} {r : List Expr} {pos : Pos} (h : ∀ y q (pos : Pos), r = y :: q → starEach (y :: q) X.env = (false, eval y X.env) :: starEach q X.env ∧ ((backTo pos (starEach q X.env)).any (·.1)) = false) : ((backTo pos (starEach r X.env)).any (·.1)) = false := by
  cases r with
  | nil => rfl
  | cons y q =>
    obtain ⟨h1, h2⟩ := h y q pos rfl
    rw [h1]
    show (false || (backTo pos (starEach q X.env)).any (·.1)) = false
    rw [h2]; rfl
mutual
theorem ok_E {c : Cfg} : ∀ (e : E) (cc : CC) (X : Cx) (a : Expr), GoodC cc X c → chkE cc e a = true → SE X c (Xp.none (zx X)) e a
  | .var i, cc, X, a, G, h => by
    unfold chkE at h
    obtain ⟨q, x, p, rfl⟩ := G.var h
    exact se_var q (fun _ => rfl)
  | .rd i, cc, X, a, G, h => by
    unfold chkE at h
    obtain ⟨q, x, p, rfl⟩ := G.var h
    exact se_rd q (fun _ => rfl)
  | .cst t, cc, X, a, G, h => by
    unfold chkE at h
    split at h
    · exact ok_cst h
    · cases h
  | .glo g, cc, X, a, G, h => by
    unfold chkE at h
    split at h
    · rename_i x p
      rw [Bool.and_eq_true, decide_eq_true_eq] at h
      obtain ⟨t, v, u, h1, h2, h3, h4⟩ := G.glo g x h.1
      obtain ⟨g1, g2, _⟩ := G.gl h.2
      exact se_glo h1 (pe_glob g1 h2 h3 g2) h4 (fun _ => rfl)
    · cases h
  | .tup es, cc, X, a, G, h => by
    unfold chkE at h
    split at h
    · rw [Bool.and_eq_true, decide_eq_true_eq] at h
      exact se_tup (ok_Es es cc X _ G h.1) h.2
    · cases h
  | .lst es, cc, X, a, G, h => by
    unfold chkE at h
    split at h
    · rw [Bool.and_eq_true, decide_eq_true_eq] at h
      exact se_lst (ok_Es es cc X _ G h.1) h.2
    · cases h
  | .dct es, cc, X, a, G, h => by
    unfold chkE at h
    split at h
    · rename_i ks vs p
      rw [Bool.and_eq_true, decide_eq_true_eq] at h
      obtain ⟨trs, r⟩ := ok_P es cc X p ks vs G h.1
      cases ks with
      | nil =>
        obtain ⟨_, f2, _⟩ := r.facts
        cases vs with
        | nil => cases r; exact se_dct0
        | cons _ _ => simp at f2
      | cons k ks => exact se_dct r (by simp) h.2
    · cases h
  | .bin op x y, cc, X, a, G, h => by
    unfold chkE at h
    split at h
    · simp only [Bool.and_eq_true] at h
      exact ok_bin h.1.1 (ok_E x cc X _ G h.1.2) (ok_E y cc X _ G h.2)
    · cases h
  | .neg x, cc, X, a, G, h => by
    unfold chkE at h
    split at h
    · exact se_neg (ok_E x cc X _ G h)
    · cases h
  | .cmp op x y, cc, X, a, G, h => by
    unfold chkE at h
    split at h
    · simp only [Bool.and_eq_true] at h
      obtain ⟨r, h1, h2⟩ := ok_cop G h.1.1.1
      exact se_cmp h1 h2 (ok_E x cc X _ G h.1.1.2) (ok_E y cc X _ G h.1.2) (nomarks _ _ (noSet h.2))
    · cases h
  | .chn o1 o2 x y z, cc, X, a, G, h => by
    unfold chkE at h
    split at h
    · simp only [Bool.and_eq_true] at h
      obtain ⟨⟨⟨⟨⟨h1, h2⟩, h3⟩, h4⟩, h5⟩, h6⟩ := h
      obtain ⟨r, q1, q2⟩ := ok_cop G h1
      obtain ⟨r', q3, q4⟩ := ok_cop G h2
      exact se_chn q1 q3 q2 q4 (ok_E x cc X _ G h3) (ok_E y cc X _ G h4) (ok_E z cc X _ G h5) (nomarks _ _ (noSet h6))
    · cases h
  | .isN x, cc, X, a, G, h => by
    unfold chkE at h
    split at h
    · exact se_isN (ok_E x cc X _ G h)
    · cases h
  | .notN x, cc, X, a, G, h => by
    unfold chkE at h
    split at h
    · exact se_notN (ok_E x cc X _ G h)
    · cases h
  | .isB k x, cc, X, a, G, h => by unfold chkE at h; cases h
  | .notB k x, cc, X, a, G, h => by unfold chkE at h; cases h
  | .and es, cc, X, a, G, h => by
    unfold chkE at h
    split at h
    · rw [Bool.and_eq_true] at h
      exact se_and (ok_B es cc X _ _ G h.1 h.2).1
    · cases h
  | .or es, cc, X, a, G, h => by
    unfold chkE at h
    split at h
    · rw [Bool.and_eq_true] at h
      exact se_or (ok_B es cc X _ _ G h.1 h.2).2
    · cases h
  | .not x, cc, X, a, G, h => by
    unfold chkE at h
    split at h
    · exact se_not (ok_E x cc X _ G h)
    · cases h
  | .ite q x y, cc, X, a, G, h => by
    unfold chkE at h
    split at h
    · simp only [Bool.and_eq_true] at h
      exact se_ite (ok_E q cc X _ G h.1.1) (ok_E x cc X _ G h.1.2) (ok_E y cc X _ G h.2)
    · cases h
  | .idx x y, cc, X, a, G, h => by
    unfold chkE at h
    split at h
    · simp only [Bool.and_eq_true] at h
      exact se_idx G.units (ok_E x cc X _ G h.1.1) (ok_E y cc X _ G h.1.2) (plain_ix h.2)
    · cases h
  | .sli x lo hi, cc, X, a, G, h => by
    unfold chkE at h
    split at h
    · simp only [Bool.and_eq_true] at h
      exact se_sli (ok_E x cc X _ G h.1.1) (ok_O lo cc X _ G h.1.2) (ok_O hi cc X _ G h.2)
    · cases h
  | .call f as, cc, X, a, G, h => by
    unfold chkE at h
    split at h
    · rename_i x p xs pos
      simp only [Bool.and_eq_true, decide_eq_true_eq] at h
      obtain ⟨⟨h1, h2⟩, h3⟩ := h
      obtain ⟨k, fa, fd, ps, np, f1, f2, f3, f4, f5, f6⟩ := G.call f x h1
      obtain ⟨g1, g2, _⟩ := G.gl h2
      have C : Callee X c f x := ⟨CXn, k, fa, fd, ps, np, f1, f2, f3, g1, f4, f5, f6, fun _ _ _ _ _ _ _ z => z.elim, g2⟩
      obtain ⟨q1, q2⟩ := ok_A as cc X xs G h3
      cases xs with
      | nil =>
        cases as with
        | nil => exact se_call0 C hexN
        | _ => unfold chkA at h3; cases h3
      | cons y r =>
        obtain ⟨q3, q4⟩ := q2 y r pos rfl
        exact se_call C hexN q1 q3 q4
    · cases h
  | .b1 f x, cc, X, a, G, h => by
    unfold chkE at h
    split at h
    · simp only [Bool.and_eq_true, decide_eq_true_eq] at h
      exact ok_b1 G h.1.1.1 h.1.1.2 (ok_E x cc X _ G h.1.2) h.2
    · cases h
  | .b2 f x y, cc, X, a, G, h => by
    unfold chkE at h
    split at h
    · simp only [Bool.and_eq_true, decide_eq_true_eq] at h
      obtain ⟨⟨⟨⟨⟨h1, h2⟩, h3⟩, h4⟩, h5⟩, h6⟩ := h
      exact ok_b2 G h1 h2 (ok_E x cc X _ G h3) (ok_E y cc X _ G h4) h5 h6
    · cases h
  | .mt f x y, cc, X, a, G, h => by
    unfold chkE at h
    split at h
    · simp only [Bool.and_eq_true, decide_eq_true_eq] at h
      obtain ⟨⟨⟨⟨⟨h1, h2⟩, h3⟩, h4⟩, h5⟩, h6⟩ := h
      exact ok_mt h1 (ok_E x cc X _ G h2) (ok_E y cc X _ G h3) h4 h5 h6
    · cases h
  | .get x y z, cc, X, a, G, h => by
    unfold chkE at h
    split at h
    · simp only [Bool.and_eq_true, decide_eq_true_eq] at h
      obtain ⟨⟨⟨⟨⟨⟨⟨h1, h2⟩, h3⟩, h4⟩, h5⟩, h6⟩, h7⟩, h8⟩ := h
      subst h1
      exact se_get G.units (ok_E x cc X _ G h2) (ok_E y cc X _ G h3) (ok_E z cc X _ G h4) (m2_of h5 h6 h7 h8)
    · cases h
  | .isi ty x, cc, X, a, G, h => by
    unfold chkE at h
    split at h
    · simp only [Bool.and_eq_true, decide_eq_true_eq] at h
      obtain ⟨⟨⟨⟨⟨h1, h2⟩, h3⟩, h4⟩, h5⟩, h6⟩ := h
      exact ok_isi G h1 h2 h3 h4 (ok_E x cc X _ G h5) h6
    · cases h
  | .lc elt tg it ifs own, cc, X, a, G, h => by
    unfold chkE at h
    split at h
    · rename_i e t i fs scope p
      simp only [Bool.and_eq_true, decide_eq_true_eq] at h
      obtain ⟨⟨⟨⟨⟨⟨h1, h2⟩, h3⟩, h4⟩, h5⟩, h6⟩, h7⟩ := h
      have hok := blk_own h3 h4
      rw [← G.N, ← G.sc] at hok
      exact se_lc G.calm (by rw [G.N]; exact G.nd) (ok_I it cc X t i G h1) ⟨hok, fun s H C cl fp => ok_T tg (cc.blk scope) _ t (G.blk s H scope C cl fp) h5, fun s H C cl fp => ok_F ifs (cc.blk scope) _ fs (G.blk s H scope C cl fp) h6,
        fun s H C cl fp => pe_frzS (ok_E elt (cc.blk scope) _ e (G.blk s H scope C cl fp) h7)⟩ (noFold h2 _)
    · cases h
  | .lc2 elt tg it ifs tg2 it2 ifs2 own own2, cc, X, a, G, h => by
    unfold chkE at h
    split at h
    · rename_i e t i fs t2 i2 fs2 scope p
      simp only [Bool.and_eq_true, decide_eq_true_eq] at h
      obtain ⟨⟨⟨⟨⟨⟨⟨⟨⟨⟨⟨h1, h2⟩, h2'⟩, h3⟩, h4⟩, h4'⟩, h5⟩, h6⟩, h8⟩, h9⟩, h10⟩, h7⟩ := h
      have hok := blk_own h3 h4
      rw [← G.N, ← G.sc] at hok
      exact se_lc2 G.calm (by rw [G.N]; exact G.nd) (ok_I it cc X t i G h1) hok (fun j hj => by have := List.all_eq_true.mp h4' j hj; simpa using this)
        (fun s H C cl fp => ok_T tg (cc.blk scope) _ t (G.blk s H scope C cl fp) h5) (fun s H C cl fp => ok_F ifs (cc.blk scope) _ fs (G.blk s H scope C cl fp) h6)
        (fun s H C cl fp => ok_I it2 (cc.blk scope) _ t2 i2 (G.blk s H scope C cl fp) h8) (fun s H C cl fp => ok_T tg2 (cc.blk scope) _ t2 (G.blk s H scope C cl fp) h9) (fun s H C cl fp => ok_F ifs2 (cc.blk scope) _ fs2 (G.blk s H scope C cl fp) h10)
        (fun s H C cl fp => pe_frzS (ok_E elt (cc.blk scope) _ e (G.blk s H scope C cl fp) h7)) (noFold h2 _) (noFold h2')
    · cases h
  | .dc _ _ _ _ _ _, cc, X, a, G, h => by unfold chkE at h; cases h
  | .pop i, cc, X, a, G, h => by unfold chkE at h; cases h
  | .lvals x, cc, X, a, G, h => by unfold chkE at h; cases h
  | .gdct g, cc, X, a, G, h => by
    unfold chkE at h
    split at h
    · simp only [Bool.and_eq_true, decide_eq_true_eq] at h
      exact ok_gdct G h.1.1.1 h.1.1.2 h.1.2 h.2
    · cases h
theorem ok_Es {c : Cfg} : ∀ (es : Es) (cc : CC) (X : Cx) (xs : List Expr), GoodC cc X c → chkEs cc es xs = true → PA X xs (rA (zx X) (Xp.none (zx X)) (evs c es))
  | .nil, cc, X, xs, G, h => by
    unfold chkEs at h
    split at h
    · exact sa_nil
    · cases h
  | .cons e es, cc, X, xs, G, h => by
    unfold chkEs at h
    split at h
    · simp only [Bool.and_eq_true] at h
      exact sa_cons (ok_E e cc X _ G h.1.1) (ok_Es es cc X _ G h.1.2) h.2
    · cases h
theorem ok_B {c : Cfg} : ∀ (es : Es) (cc : CC) (X : Cx) (xs : List Expr) (pos : Pos), GoodC cc X c → chkB cc es xs = true → neEs es = true → SAnd X c (Xp.none (zx X)) es xs pos ∧ SOr X c (Xp.none (zx X)) es xs pos
  | .nil, cc, X, xs, pos, G, h, hn => by cases hn
  | .cons e es, cc, X, xs, pos, G, h, hn => by
    unfold chkB at h
    split at h
    · rename_i x r
      rw [Bool.and_eq_true] at h
      have q := ok_E e cc X x G h.1
      have h2 := h.2
      cases es with
      | nil =>
        cases r with
        | nil => exact ⟨sand_one q, sor_one q⟩
        | cons y r => unfold chkB at h2; cases h2
      | cons f es =>
        cases r with
        | nil => unfold chkB at h2; cases h2
        | cons y r =>
          obtain ⟨q1, q2⟩ := ok_B (.cons f es) cc X (y :: r) pos G h2 rfl
          exact ⟨sand_cons q q1, sor_cons q q2⟩
    · cases h
theorem ok_P {c : Cfg} : ∀ (es : Es) (cc : CC) (X : Cx) (pos : Pos) (ks : List (Option Expr)) (vs : List Expr), GoodC cc X c → chkP cc es ks vs = true → ∃ trs, Prs X c (Xp.none (zx X)) pos es ks vs trs
  | .nil, cc, X, pos, ks, vs, G, h => by
    unfold chkP at h
    split at h
    · exact ⟨_, .nil⟩
    · cases h
  | .cons k .nil, cc, X, pos, ks, vs, G, h => by
    unfold chkP at h
    split at h
    · rw [Bool.and_eq_true] at h
      have h2 := h.2
      unfold chkQ at h2
      cases h2
    · cases h
  | .cons k (.cons v r), cc, X, pos, ks, vs, G, h => by
    unfold chkP at h
    split at h
    · rename_i x ks
      rw [Bool.and_eq_true] at h
      have h2 := h.2
      unfold chkQ at h2
      split at h2
      · rename_i y vs
        rw [Bool.and_eq_true] at h2
        obtain ⟨trs, q⟩ := ok_P r cc X pos ks vs G h2.2
        exact ⟨_, .cons (ok_E k cc X x G h.1) (ok_E v cc X y G h2.1) q⟩
      · cases h2
    · cases h
theorem ok_F {c : Cfg} : ∀ (es : Es) (cc : CC) (X : Cx) (xs : List Expr), GoodC cc X c → chkF cc es xs = true → PTs X xs (rTt (zx X) (Xp.none (zx X)) (evT c es))
  | .nil, cc, X, xs, G, h => by
    unfold chkF at h
    split at h
    · exact tt_nil
    · cases h
  | .cons e es, cc, X, xs, G, h => by
    unfold chkF at h
    split at h
    · exact tt_one (ok_E e cc X _ G h)
    · cases h
theorem ok_O {c : Cfg} : ∀ (e : Eo) (cc : CC) (X : Cx) (a : Option Expr), GoodC cc X c → chkO cc e a = true → PO X a (rOp (zx X) (Xp.none (zx X)) (evo c e))
  | .non, cc, X, a, G, h => by
    unfold chkO at h
    split at h
    · exact so_non
    · cases h
  | .som e, cc, X, a, G, h => by
    unfold chkO at h
    split at h
    · exact so_som (ok_E e cc X _ G h)
    · cases h
theorem ok_A {c : Cfg} : ∀ (as : As) (cc : CC) (X : Cx) (xs : List Expr), GoodC cc X c → chkA cc as xs = true → PA X xs (rG (zx X) (Xp.none (zx X)) (eva c as)) ∧ ∀ y r (pos : Pos), xs = y :: r → starEach (y :: r) X.env = (false, eval y X.env) :: starEach r X.env ∧ ((backTo pos (starEach r X.env)).any (·.1)) = false
  | .nil, cc, X, xs, G, h => by
    unfold chkA at h
    split at h
    · exact ⟨ga_nil, fun y r pos e => by cases e⟩
    · cases h
  | .val e as, cc, X, xs, G, h => by
    unfold chkA at h
    split at h
    · simp only [Bool.and_eq_true] at h
      obtain ⟨q1, q2⟩ := ok_A as cc X _ G h.1.2
      exact ⟨ga_val (ok_E e cc X _ G h.1.1) q1 h.2, fun y r pos e => by cases e; exact ⟨star_of h.2, any_of q2⟩⟩
    · cases h
  | .mut i as, cc, X, xs, G, h => by
    unfold chkA at h
    split at h
    · simp only [Bool.and_eq_true] at h
      obtain ⟨q1, q2⟩ := ok_A as cc X _ G h.1.2
      exact ⟨ga_mut (G.var h.1.1).1 q1 h.2, fun y r pos e => by cases e; exact ⟨star_of h.2, any_of q2⟩⟩
    · cases h
  | .tmp e as, cc, X, xs, G, h => by
    unfold chkA at h
    split at h
    · simp only [Bool.and_eq_true] at h
      obtain ⟨q1, q2⟩ := ok_A as cc X _ G h.1.2
      exact ⟨ga_tmp (ok_E e cc X _ G h.1.1) q1 h.2, fun y r pos e => by cases e; exact ⟨star_of h.2, any_of q2⟩⟩
    · cases h
theorem ok_I {c : Cfg} : ∀ (it : Vi.It) (cc : CC) (X : Cx) (tg i : Expr), GoodC cc X c → chkI cc it i = true → PI X tg i (rI (zx X) (Xp.none (zx X)) (evi c it))
  | .of e, cc, X, tg, i, G, h => by unfold chkI at h; exact it_of (ok_E e cc X _ G h)
  | .rng e, cc, X, tg, i, G, h => by
    unfold chkI at h
    split at h
    · simp only [Bool.and_eq_true, decide_eq_true_eq] at h
      obtain ⟨⟨⟨h1, h2⟩, h3⟩, h4⟩ := h
      subst h1
      exact it_rng (G.gl h2).1 G.rng (ok_E e cc X _ G h3) h4
    · cases h
  | .rng2 e f, cc, X, tg, i, G, h => by
    unfold chkI at h
    split at h
    · simp only [Bool.and_eq_true, decide_eq_true_eq] at h
      obtain ⟨⟨⟨⟨⟨h1, h2⟩, h3⟩, h4⟩, h5⟩, h6⟩ := h
      subst h1
      exact it_rng2 (G.gl h2).1 G.rng (ok_E e cc X _ G h3) (ok_E f cc X _ G h4) h5 h6
    · cases h
  | .enu _, cc, X, tg, i, G, h => by unfold chkI at h; cases h
  | .zip _ _, cc, X, tg, i, G, h => by unfold chkI at h; cases h
  | .vals _, cc, X, tg, i, G, h => by unfold chkI at h; cases h
  | .items _, cc, X, tg, i, G, h => by unfold chkI at h; cases h
end
end Vi

set_option autoImplicit false
set_option Elab.async false
set_option linter.all false
set_option maxRecDepth 100000
/-! VI: the check of statements. -/
namespace Vi
open PySem PySem.Spec PyProof.Rows L2
/-- is the store done within the comprehension's frame -/
def swapB (sc : Scope) (x : Str) (p : Pos) : Expr → Bool
  | .ListComp _ _ s q => (if sc.kind.isAnnotationScope then ScopeKind.function else sc.kind) == .function && sc.names.lookup x == some .local && p.line == q.line && !(s.names.any fun (n, k) => n == x && (k == .local || k == .cell))
  | .SetComp _ _ s q => (if sc.kind.isAnnotationScope then ScopeKind.function else sc.kind) == .function && sc.names.lookup x == some .local && p.line == q.line && !(s.names.any fun (n, k) => n == x && (k == .local || k == .cell))
  | .DictComp _ _ _ s q => (if sc.kind.isAnnotationScope then ScopeKind.function else sc.kind) == .function && sc.names.lookup x == some .local && p.line == q.line && !(s.names.any fun (n, k) => n == x && (k == .local || k == .cell))
  | _ => false
def notComp : Expr → Bool
  | .ListComp _ _ _ _ => false
  | .SetComp _ _ _ _ => false
  | .DictComp _ _ _ _ _ => false
  | _ => true
def isTupE : Expr → Bool
  | .Tuple _ _ _ => true
  | _ => false
def isLcE : E → Bool
  | .lc _ _ _ _ _ => true
  | .lc2 _ _ _ _ _ _ _ _ _ => true
  | _ => false
/-- a pair of stores: swapped, not swapped, or not known -/
def swapN (sc : Scope) (ts vs : List Expr) : Option (Option (List Str)) :=
  if !(ts.length == 2 || ts.length == 3) || vs.length != ts.length || (if sc.kind.isAnnotationScope then ScopeKind.function else sc.kind) != .function then some none
  else if vs.any (fun | .Starred .. => true | _ => false) then some none
  else
    let line := (ts.head?.map (·.pos.line)).getD 0
    let names := ts.filterMap fun
      | .Name id pos => if sc.names.lookup id == some .local && pos.line == line then some id else none
      | _ => none
    if names.length != ts.length || names.eraseDups.length != names.length then some none
    else if vs.all (foldedForSure 8) then some none
    else if vs.all (constantsAlone 8) then none
    else some (some names)
theorem swapsWith_eq {env : PySem.Env} {sc : Scope} (h : env.scope = sc) (x : Str) (p : Pos) (line : Nat) (v : Expr) : swapsWith v (some (.Name x p)) line env = pure (swapB sc x p v) := by
  subst h
  cases v <;> rfl
theorem swapsNone {env : PySem.Env} {v : Expr} (h : notComp v = true) (t : Option Expr) (line : Nat) : swapsWith v t line env = pure false := by
  cases v <;> first | rfl | cases h
theorem swappedStores_eq {env : PySem.Env} {sc : Scope} (h : env.scope = sc) {ts vs : List Expr} {kt k2 : Nat} {pt pt2 : Pos} {r : Option (List Str)} (hr : swapN sc ts vs = some r) : swappedStores [.Tuple ts kt pt] (.Tuple vs k2 pt2) env = pure r := by
  subst h
  unfold swapN at hr
  unfold swappedStores
  unfold Env.blockKind Env.kindOf
  generalize (if env.scope.kind.isAnnotationScope = true then ScopeKind.function else env.scope.kind) = bk at hr ⊢
  dsimp only at hr ⊢
  split at hr
  · rename_i h1
    cases hr
    exact if_pos h1
  · rename_i h1
    refine Eq.trans (if_neg h1) ?_
    split at hr
    · rename_i h2
      cases hr
      exact if_pos h2
    · rename_i h2
      refine Eq.trans (if_neg h2) ?_
      split at hr
      · rename_i h3
        cases hr
        exact if_pos h3
      · rename_i h3
        refine Eq.trans (if_neg h3) ?_
        split at hr
        · rename_i h4
          cases hr
          exact if_pos h4
        · rename_i h4
          refine Eq.trans (if_neg h4) ?_
          split at hr
          · cases hr
          · rename_i h5
            cases hr
            exact if_neg h5
end Vi

set_option autoImplicit false
set_option Elab.async false
set_option linter.all false
set_option maxRecDepth 100000
/-! VI: the check of statements is sound. -/
namespace Vi
open PySem PySem.Spec PyProof.Rows L2
/-- values, as they come -/
def chkK (cc : CC) : Es → List Expr → Bool
  | .nil, [] => true
  | .cons e es, x :: r => chkE cc e x && chkK cc es r && notStar x
  | _, _ => false
/-- names that are stored -/
def nmsC (cc : CC) : List Nat → List Expr → Bool
  | [], [] => true
  | i :: is, .Name x _ :: r => decide (cc.N[i]? = some x) && locC cc x && !cc.ML.contains i && nmsC cc is r
  | _, _ => false
def chkPar (cc : CC) (is : List Nat) (es : Es) (ts vs : List Expr) : Bool := chkK cc es vs && (match swapN cc.sc ts vs with
  | some (some names) => (match is, ts, vs, names with
    | [i, j], [.Name x _, .Name y _], [_, _], [x', y'] => decide (x = x') && decide (y = y') && decide (cc.N[i]? = some x) && decide (cc.N[j]? = some y) && !decide (i = j) && decide (cc.kd x = some .local) && decide (cc.kd y = some .local) && !cc.ML.contains i && !cc.ML.contains j
    | _, _, _, _ => false)
  | some none => nmsC cc is ts && decide (is.length ≤ 1000)
  | none => false)
mutual
def chkS (cc : CC) : S → Stmt → Bool
  | .pass => fun s => match s with
    | .Pass _ => true
    | _ => false
  | .brk => fun s => match s with
    | .Break _ => true
    | _ => false
  | .cnt => fun s => match s with
    | .Continue _ => true
    | _ => false
  | .asg i e => fun s => match s with
    | .Assign [.Name x p] v _ => decide (cc.N[i]? = some x) && locC cc x && !cc.ML.contains i && chkE cc e v && (!swapB cc.sc x p v || (isLcE e && decide (cc.kd x = some .local)))
    | _ => false
  | .asgT tg e => fun s => match s with
    | .Assign [t] v _ => isTupE t && notComp v && !isTupE v && chkT cc tg t && chkE cc e v
    | _ => false
  | .par is es => fun s => match s with
    | .Assign [.Tuple ts _ _] (.Tuple vs _ _) _ => chkPar cc is es ts vs
    | _ => false
  | .put i k e kp => fun s => match s with
    | .Assign [.Subscript o kx _] v _ => !kp && varE cc i o && chkE cc k kx && chkE cc e v && notSlice kx && notComp v
    | _ => false
  | .app i e => fun s => match s with
    | .Expr (.Call (.Attribute o n apos) [v] [] cpos) _ => decide (n = ("append" : Str)) && varE cc i o && chkE cc e v && notStar v && (apos.endLine == cpos.line)
    | _ => false
  | .exp e => fun s => match s with
    | .Expr v _ => chkE cc e v && notComp v
    | _ => false
  | .ifs q a b => fun s => match s with
    | .If u xs ys _ => chkE cc q u && chkSs cc a xs && chkSs cc b ys
    | _ => false
  | .whl q a => fun s => match s with
    | .While u xs [] _ => chkE cc q u && chkSs cc a xs
    | _ => false
  | .for tg it a => fun s => match s with
    | .For t i xs [] _ => chkT cc tg t && chkI cc it i && notSet i && chkSs cc a xs
    | _ => false
  | .ret e => fun s => match s with
    | .Return (some v) _ => chkE cc e v
    | _ => false
  | .retv i => fun s => match s with
    | .Return (some v) _ => varE cc i v
    | _ => false
  | .retN => fun s => match s with
    | .Return none _ => true
    | _ => false
  | .rai _ _ => fun s => match s with
    | .Raise _ _ _ => true
    | _ => false
  | _ => fun _ => false
def chkSs (cc : CC) : Ss → List Stmt → Bool
  | .nil => fun xs => match xs with
    | [] => true
    | _ => false
  | .cons s ss => fun xs => match xs with
    | x :: r => chkS cc s x && chkSs cc ss r
    | _ => false
end
theorem sole_none {t v : Expr} {line : Nat} {env : PySem.Env} (h : notComp v = true) : swapsWithSole [t] v line env = pure false := swapsNone h (some t) line
section
variable {c : Cfg} {cc : CC} {X : Cx}
theorem ok_K : ∀ (es : Es) (xs : List Expr), GoodC cc X c → chkK cc es xs = true → PA X xs (rK (zx X) (Xp.none (zx X)) (evk c es))
  | .nil, [], G, h => ka_nil
  | .nil, _ :: _, G, h => by cases h
  | .cons _ _, [], G, h => by cases h
  | .cons e es, x :: r, G, h => by
    have h : (chkE cc e x && chkK cc es r && notStar x) = true := h
    simp only [Bool.and_eq_true] at h
    exact ka_cons (ok_E e cc X x G h.1.1) (ok_K es r G h.1.2) h.2
theorem ok_nms : ∀ (is : List Nat) (ts : List Expr), GoodC cc X c → nmsC cc is ts = true → PGs X ts (gNames is) ∧ (assignEach ts X.env).length = is.length ∧ (assignEach ts X.env).findIdx? (·.1) = none ∧ ∀ i ∈ is, i ∉ cc.ML
  | [], [], G, h => ⟨pgs_nil, rfl, rfl, fun i hi => by simp at hi⟩
  | [], _ :: _, G, h => by cases h
  | _ :: _, [], G, h => by cases h
  | i :: is, a :: r, G, h => by
    cases a with
    | Name x p =>
      have h : (decide (cc.N[i]? = some x) && locC cc x && !cc.ML.contains i && nmsC cc is r) = true := h
      simp only [Bool.and_eq_true, decide_eq_true_eq, Bool.not_eq_true'] at h
      obtain ⟨⟨⟨h1, h2⟩, h3⟩, h4⟩ := h
      obtain ⟨q1, q2, q3, q4⟩ := ok_nms is r G h4
      obtain ⟨l1, l2⟩ := G.loc h2
      refine ⟨pgs_cons (pg_name (by rw [G.N]; exact G.nd) (by rw [G.N]; exact h1) l1 l2) q1 rfl, by show (assignEach r X.env).length + 1 = is.length + 1; rw [q2], ?_, fun j hj => ?_⟩
      · show List.findIdx? (·.1) ((false, _) :: assignEach r X.env) = none
        rw [List.findIdx?_cons]
        simp [q3]
      · rcases List.mem_cons.mp hj with rfl | hj
        · simpa using h3
        · exact q4 j hj
    | _ => cases h
theorem ok_par {is : List Nat} {es : Es} {ts vs : List Expr} {kt k2 : Nat} {pt pt2 pos : Pos} (G : GoodC cc X c) (h : chkPar cc is es ts vs = true) : PS X (.Assign [.Tuple ts kt pt] (.Tuple vs k2 pt2) pos) (rX (zx X) (Xp.none (zx X)) cc.ML (ex c (.par is es))) := by
  have hN : X.N.Nodup := by rw [G.N]; exact G.nd
  unfold chkPar at h
  rw [Bool.and_eq_true] at h
  obtain ⟨h1, h2⟩ := h
  have hk := ok_K es vs G h1
  split at h2
  · rename_i names hsw
    split at h2
    · rename_i i j x p y q a b x' y'
      simp only [Bool.and_eq_true, decide_eq_true_eq, Bool.not_eq_true', decide_eq_false_iff_not] at h2
      obtain ⟨⟨⟨⟨⟨⟨⟨⟨e1, e2⟩, n1⟩, n2⟩, ne⟩, k1⟩, k2'⟩, m1⟩, m2⟩ := h2
      subst e1 e2
      exact ss_par2 G.calm hN (by rw [G.N]; exact n1) (by rw [G.N]; exact n2) ne (by rw [G.sc]; exact k1) (by rw [G.sc]; exact k2') (by simpa using m1) (by simpa using m2) hk (swappedStores_eq G.sc hsw)
    · cases h2
  · rename_i hsw
    rw [Bool.and_eq_true, decide_eq_true_eq] at h2
    obtain ⟨q1, q2, q3, q4⟩ := ok_nms is ts G h2.1
    exact ss_parT G.calm hk q1 q2 q3 q4 h2.2 rfl (swappedStores_eq G.sc hsw)
  · cases h2
/-- name = [..], the store within the comprehension's frame -/
theorem ss_setLc {i : Nat} {x : Str} {p pos : Pos} {e : E} {v : Expr} (G : GoodC cc X c) (hi : cc.N[i]? = some x) (hl : cc.kd x = some .local) (hM : i ∉ cc.ML) (he : chkE cc e v = true) (hlc : isLcE e = true) (hsw : swapB cc.sc x p v = true) :
    PS X (.Assign [.Name x p] v pos) (rX (zx X) (Xp.none (zx X)) cc.ML (ex c (.asg i e))) := by
  have hN : X.N.Nodup := by rw [G.N]; exact G.nd
  have hsw' := (swapsWith_eq G.sc x p pos.line v).trans (by rw [hsw])
  have hxi : X.N[i]? = some x := by rw [G.N]; exact hi
  have hxl : X.env.scope.names.lookup x = some .local := by rw [G.sc]; exact hl
  cases e with
  | lc elt tg it ifs own =>
    unfold chkE at he
    split at he
    · rename_i e t i2 fs scope q
      simp only [Bool.and_eq_true, decide_eq_true_eq] at he
      obtain ⟨⟨⟨⟨⟨⟨h1, h2⟩, h3⟩, h4⟩, h5⟩, h6⟩, h7⟩ := he
      have hok := blkOk_by h3
      rw [← G.N, ← G.sc] at hok
      have := ps_setLc (i := i) (spos := pos) (te := rF (zx X) (Xp.none (zx X)) (mElt c elt)) (tt := rTt (zx X) (Xp.none (zx X)) (evT c ifs)) (g := rTg (zx X) [] tg) G.calm hN hxi hxl hsw' (ok_I it cc X t i2 G h1) hok (fun s H C cl fp => ok_T tg (cc.blk scope) _ t (G.blk s H scope C cl fp) h5) (fun s H C cl fp => ok_F ifs (cc.blk scope) _ fs (G.blk s H scope C cl fp) h6)
        (fun s H C cl fp => pe_frzS (ok_E elt (cc.blk scope) _ e (G.blk s H scope C cl fp) h7)) (noFold h2 _)
      rw [G.N, h4] at this
      exact psI this fun D σ H q => lc_read σ H _ (set_read (ea := .lc elt tg it ifs own) hM D σ H q)
    · cases he
  | lc2 elt tg it ifs tg2 it2 ifs2 own own2 =>
    unfold chkE at he
    split at he
    · rename_i e t i' fs t2 i2 fs2 scope p
      simp only [Bool.and_eq_true, decide_eq_true_eq] at he
      obtain ⟨⟨⟨⟨⟨⟨⟨⟨⟨⟨⟨h1, h2⟩, h2'⟩, h3⟩, h4⟩, h4'⟩, h5⟩, h6⟩, h8⟩, h9⟩, h10⟩, h7⟩ := he
      have hok := blkOk_by h3
      rw [← G.N, ← G.sc] at hok
      have := ps_setLc2 (i := i) (spos := pos) (vs1 := own2) (te := rF (zx X) (Xp.none (zx X)) (mElt c elt)) (tt := rTt (zx X) (Xp.none (zx X)) (evT c ifs)) (g := rTg (zx X) [] tg) (wi1 := rI (zx X) (Xp.none (zx X)) (evi c it2)) (g1 := rTg (zx X) [] tg2) (tt1 := rTt (zx X) (Xp.none (zx X)) (evT c ifs2)) G.calm hN hxi hxl hsw' (ok_I it cc X t i' G h1) hok (fun j hj => by rw [G.N, h4]; have := List.all_eq_true.mp h4' j hj; simpa using this)
        (fun s H C cl fp => ok_T tg (cc.blk scope) _ t (G.blk s H scope C cl fp) h5) (fun s H C cl fp => ok_F ifs (cc.blk scope) _ fs (G.blk s H scope C cl fp) h6)
        (fun s H C cl fp => ok_I it2 (cc.blk scope) _ t2 i2 (G.blk s H scope C cl fp) h8) (fun s H C cl fp => ok_T tg2 (cc.blk scope) _ t2 (G.blk s H scope C cl fp) h9) (fun s H C cl fp => ok_F ifs2 (cc.blk scope) _ fs2 (G.blk s H scope C cl fp) h10)
        (fun s H C cl fp => pe_frzS (ok_E elt (cc.blk scope) _ e (G.blk s H scope C cl fp) h7)) (noFold h2 _) (noFold h2')
      rw [G.N, h4] at this
      exact psI this fun D σ H q => lc2_read σ H _ (set_read (ea := .lc2 elt tg it ifs tg2 it2 ifs2 own own2) hM D σ H q)
    · cases he
  | _ => cases hlc
end
mutual
theorem ok_S {c : Cfg} : ∀ (s : S) (cc : CC) (X : Cx) (st : Stmt), GoodC cc X c → PassesOwn (model X.prog X.w) X.A X.env X.xe → chkS cc s st = true → PS X st (rX (zx X) (Xp.none (zx X)) cc.ML (ex c s))
  | .pass, cc, X, st, G, hp, h => by
    unfold chkS at h
    split at h
    · exact ss_pass
    · cases h
  | .brk, cc, X, st, G, hp, h => by
    unfold chkS at h
    split at h
    · exact ss_brk
    · cases h
  | .cnt, cc, X, st, G, hp, h => by
    unfold chkS at h
    split at h
    · exact ss_cnt
    · cases h
  | .asg i e, cc, X, st, G, hp, h => by
    unfold chkS at h
    split at h
    · rename_i x p v pos
      simp only [Bool.and_eq_true, decide_eq_true_eq, Bool.not_eq_true', Bool.or_eq_true] at h
      obtain ⟨⟨⟨⟨h1, h2⟩, h3⟩, h4⟩, h5⟩ := h
      obtain ⟨l1, l2⟩ := G.loc h2
      have hM : i ∉ cc.ML := by simpa using h3
      rcases h5 with h5 | h5
      · exact ss_asg (by rw [G.N]; exact G.nd) (by rw [G.N]; exact h1) l1 l2 hM (ok_E e cc X v G h4) ((swapsWith_eq G.sc x p _ v).trans (by rw [h5]))
      · by_cases hs : swapB cc.sc x p v = true
        · exact ss_setLc G h1 h5.2 hM h4 h5.1 hs
        · exact ss_asg (by rw [G.N]; exact G.nd) (by rw [G.N]; exact h1) l1 l2 hM (ok_E e cc X v G h4) ((swapsWith_eq G.sc x p _ v).trans (by rw [Bool.not_eq_true] at hs; rw [hs]))
    · cases h
  | .asgT tg e, cc, X, st, G, hp, h => by
    unfold chkS at h
    split at h
    · rename_i t v pos
      simp only [Bool.and_eq_true, Bool.not_eq_true'] at h
      obtain ⟨⟨⟨⟨h1, h2⟩, h3⟩, h4⟩, h5⟩ := h
      have ht := ok_T tg cc X t G h4
      have hv := ok_E e cc X v G h5
      cases t <;> first | (cases h1; done) | skip
      refine ss_asgT hv ht (sole_none h2) ?_ rfl
      cases v <;> first | rfl | cases h3
    · cases h
  | .par is es, cc, X, st, G, hp, h => by
    unfold chkS at h
    split at h
    · exact ok_par G h
    · cases h
  | .put i k e kp, cc, X, st, G, hp, h => by
    unfold chkS at h
    split at h
    · rename_i o kx p2 v pos
      simp only [Bool.and_eq_true, Bool.not_eq_true'] at h
      obtain ⟨⟨⟨⟨⟨h1, h2⟩, h3⟩, h4⟩, h5⟩, h6⟩ := h
      subst h1
      refine ss_put (G.var h2).1 (ok_E k cc X kx G h3) (ok_E e cc X v G h4) (sole_none h6) rfl rfl ?_
      intro w
      cases kx <;> first | rfl | cases h5
    · cases h
  | .putM _ _, cc, X, st, G, hp, h => by unfold chkS at h; cases h
  | .app i e, cc, X, st, G, hp, h => by
    unfold chkS at h
    split at h
    · rename_i o n apos v cpos pos
      simp only [Bool.and_eq_true, decide_eq_true_eq] at h
      obtain ⟨⟨⟨⟨h1, h2⟩, h3⟩, h4⟩, h5⟩ := h
      subst h1
      obtain ⟨q, x, p, rfl⟩ := G.var h2
      exact ss_app trivial q (ok_E e cc X v G h3) rfl h4 h5
    · cases h
  | .appK _ _ _, cc, X, st, G, hp, h => by unfold chkS at h; cases h
  | .upd _ _, cc, X, st, G, hp, h => by unfold chkS at h; cases h
  | .exp e, cc, X, st, G, hp, h => by
    unfold chkS at h
    split at h
    · rw [Bool.and_eq_true] at h
      exact ss_exp (ok_E e cc X _ G h.1) (swapsNone h.2 _ _)
    · cases h
  | .ifs q a b, cc, X, st, G, hp, h => by
    unfold chkS at h
    split at h
    · simp only [Bool.and_eq_true] at h
      exact ss_ifs (ok_E q cc X _ G h.1.1) (ok_Ss a cc X _ G hp h.1.2) (ok_Ss b cc X _ G hp h.2)
    · cases h
  | .whl q a, cc, X, st, G, hp, h => by
    unfold chkS at h
    split at h
    · rw [Bool.and_eq_true] at h
      exact ss_whl hp (ok_E q cc X _ G h.1) (ok_Ss a cc X _ G hp h.2)
    · cases h
  | .for tg it a, cc, X, st, G, hp, h => by
    unfold chkS at h
    split at h
    · simp only [Bool.and_eq_true] at h
      exact ss_for hp G.calm (ok_I it cc X _ _ G h.1.1.2) (ok_T tg cc X _ G h.1.1.1) (ok_Ss a cc X _ G hp h.2) (noFold h.1.2 _)
    · cases h
  | .ret e, cc, X, st, G, hp, h => by
    unfold chkS at h
    split at h
    · exact ss_ret (ok_E e cc X _ G h)
    · cases h
  | .retv i, cc, X, st, G, hp, h => by
    unfold chkS at h
    split at h
    · exact ss_retv (G.var h).1
    · cases h
  | .retN, cc, X, st, G, hp, h => by
    unfold chkS at h
    split at h
    · exact ss_retN
    · cases h
  | .rai k e, cc, X, st, G, hp, h => ss_rai hexN
theorem ok_Ss {c : Cfg} : ∀ (ss : Ss) (cc : CC) (X : Cx) (xs : List Stmt), GoodC cc X c → PassesOwn (model X.prog X.w) X.A X.env X.xe → chkSs cc ss xs = true → PSs X xs (rX (zx X) (Xp.none (zx X)) cc.ML (exs c ss))
  | .nil, cc, X, xs, G, hp, h => by
    unfold chkSs at h
    split at h
    · exact ss_nil
    · cases h
  | .cons s ss, cc, X, xs, G, hp, h => by
    unfold chkSs at h
    split at h
    · rw [Bool.and_eq_true] at h
      exact ss_cons (ok_S s cc X _ G hp h.1) (ok_Ss ss cc X _ G hp h.2)
    · cases h
end
end Vi

set_option autoImplicit false
set_option Elab.async false
set_option linter.all false
set_option maxRecDepth 100000
/-! VI: defs keep their promises. -/
namespace Vi
open PySem PySem.Spec PyProof.Rows L2
section
variable {Z : Rw} {Sh H : Hp} {F : List Addr} {ms : List (Nat × V)} {σ : L2.St} {env : Env}
/-- slots that are empty yet -/
theorem SR.extend (s : SR Z Sh F [] σ H env) (n : Nat) (h : ∀ p ∈ ms, σ[p.1]? = some (some p.2)) : SR Z Sh F ms (σ ++ List.replicate n none) H (env ++ List.replicate n none) := by
  obtain ⟨S, h1, h2, h3⟩ := s.slots
  refine ⟨by simp [s.len], s.sub, ⟨S, fun i t e => ?_, h2, h3⟩, s.fr, fun p hp => ?_⟩
  · by_cases hi : i < env.length
    · rw [List.getElem?_append_left hi] at e
      obtain ⟨v, e1, r⟩ := h1 i t e
      exact ⟨v, by rw [List.getElem?_append_left (by rw [s.len]; exact hi)]; exact e1, r⟩
    · rw [List.getElem?_append_right (by omega)] at e
      rw [List.getElem?_replicate] at e
      split at e <;> cases e
  · have := h p hp
    obtain ⟨hi, _⟩ := List.getElem?_eq_some_iff.mp this
    rw [List.getElem?_append_left hi]
    exact this
/-- what a caller sees of the slots at the end -/
theorem SR.outs {d : Def} {vs : List V} (s : SR Z Sh F ms σ H env) (hl : vs.length = d.ps.length) (hm : ∀ (i : Nat) v, i ∈ d.ms → vs[i]? = some v → (i, v) ∈ ms) : SR Z Sh F [] (vs.map some) H (outsOf d env) := by
  obtain ⟨S, h1, h2, h3⟩ := s.slots
  have get : ∀ (i : Nat) (t : T), ((outsOf d env)[i]?).bind id = some t → i < d.ps.length ∧ i ∈ d.ms ∧ (env[i]?).bind id = some t := fun i t e => by
    unfold outsOf at e
    rw [List.getElem?_map] at e
    by_cases hi : i < d.ps.length
    · rw [List.getElem?_range hi] at e
      simp only [Option.map_some, Option.bind_some, id_eq] at e
      split at e
      · rename_i hc
        exact ⟨hi, by simpa using hc, e⟩
      · cases e
    · rw [List.getElem?_eq_none (by simpa using hi)] at e; cases e
  refine ⟨by rw [List.length_map, hl]; unfold outsOf; simp, s.sub, ⟨fun i => if ((outsOf d env)[i]?).bind id = none then [] else S i, fun i t e => ?_, fun i => ?_, fun i j hij a ha hb => ?_⟩, s.fr, fun p hp => by simp at hp⟩
  · obtain ⟨q1, q2, q3⟩ := get i t e
    obtain ⟨v, e1, r⟩ := h1 i t q3
    have hi : i < vs.length := by rw [hl]; exact q1
    have hv : vs[i]? = some vs[i] := List.getElem?_eq_getElem hi
    have := s.ms _ (hm i _ q2 hv)
    rw [e1] at this
    cases this
    refine ⟨vs[i], by rw [List.getElem?_map, hv]; rfl, ?_⟩
    dsimp only
    rw [if_neg (by rw [e]; simp)]
    exact r
  · dsimp only
    split
    · simp
    · exact h2 i
  · dsimp only at ha hb
    split at ha
    · simp at ha
    · split at hb
      · simp at hb
      · exact h3 i j hij a ha hb
end
/-- a def of the text as the IR has it -/
structure DefOk (P : Program) (w : World) (K : PySem.W.Frag) (cc : CC) (d : Def) (fa : Addr) : Type where
  name : Str
  qual : Str
  params : Arguments
  body : List Stmt
  scope : Scope
  fd : FuncData
  fun_ : FunD K name qual params body scope [] [] fa fd
  sc : FnScope d.ns d.ps scope
  chk : chkSs { cc with N := d.ns, sc := scope, fn := fun _ => true, ML := d.ms } d.body body = true
  kp : PySem.W.keepIn K (.ref fa) = true
  bd : Binds K fd d.ps []
  bdA : ∀ (s : Shared) (us : List Value), us.length = d.ps.length → BindsTo s fd ⟨us, []⟩ (d.ps.zip us)
/-- one def, from those that it calls -/
theorem def_step {P : Program} {w : World} {K : PySem.W.Frag} {mg : Str → Option Value} {base : Heap} {cc : CC} {d : Def} {fa : Addr} {c : Cfg} {k : Nat} (D : DefOk P w K cc d fa)
    (G : ∀ (X : Cx), X.prog = P → X.w = w → X.K = K → X.mg = mg → X.base = base → X.N = d.ns → X.env.scope = D.scope → X.calm = true → (∀ x, X.fn x = true) → Room k X.A → GoodC { cc with N := d.ns, sc := D.scope, fn := fun _ => true, ML := d.ms } X c) :
    FnOk P w K mg base CXn (k + 1) fa D.fd d.ps (spV ⟨P, w, K⟩ d.ps.length (fun ts => d.run c ts)) := by
  refine D.fun_.ok D.sc (fun vs H Q E h => h.1) fun cdv A outer s H vs Q E hr ⟨hl, Sh, F, ts, sr, hc⟩ => ?_
  have hG := G (cxOf CXn P w K mg base d.ns D.qual D.scope fa cdv A outer s H E) rfl rfl rfl rfl rfl rfl rfl rfl (fun _ => rfl) hr
  refine ⟨_, ok_Ss d.body _ _ D.body hG (passes_of (K := fun e s'' => CXn outer H s E e s'') rfl) D.chk, ?_⟩
  have htl : ts.length = d.ps.length := by
    have := sr.len
    rw [List.length_map, List.length_map] at this
    omega
  have hc : match d.run c ts with
    | .no => False
    | .ret t outs => ∀ v H' Sh' A, SR ⟨P, w, K⟩ Sh' (A ++ F) [] (vs.map some) H' outs → Rep ⟨P, w, K⟩ Sh' H' v t A → Aft Sh F H Sh' H' → Q v H'
    | .ex _ _ _ => False := hc
  unfold Def.run at hc
  rw [if_pos htl] at hc
  have hpre : d.ps.length ≤ d.ns.length := by
    have := congrArg List.length D.sc.pre
    rw [List.length_take] at this
    omega
  let ms : List (Nat × V) := d.ms.filterMap fun i => (vs[i]?).map fun v => (i, v)
  have hms : ∀ (i : Nat) v, i ∈ d.ms → vs[i]? = some v → (i, v) ∈ ms := fun i v h1 h2 => List.mem_filterMap.mpr ⟨i, h1, by rw [h2]; rfl⟩
  have hms1 : ∀ p ∈ ms, p.1 ∈ d.ms ∧ vs[p.1]? = some p.2 := fun p hp => by
    obtain ⟨i, h1, h2⟩ := List.mem_filterMap.mp hp
    cases q : vs[i]? with
    | none => rw [q] at h2; cases h2
    | some v => rw [q] at h2; cases h2; exact ⟨h1, q⟩
  have s1 : SR ⟨P, w, K⟩ Sh F ms (L2.start d.ns vs) H (ts.map some ++ List.replicate (d.ns.length - d.ps.length) none) := by
    unfold L2.start
    rw [hl]
    exact sr.extend _ fun p hp => by rw [List.getElem?_map, (hms1 p hp).2]; rfl
  refine ⟨Sh, F, ms, _, s1, fun p hp => (hms1 p hp).1, ?_⟩
  cases q : exs c d.body (ts.map some ++ List.replicate (d.ns.length - d.ps.length) none) with
  | no => rw [q] at hc; exact hc
  | ex k2 x e => rw [q] at hc; exact hc
  | ok f e =>
    rw [q] at hc
    cases f with
    | nx => exact fun σ' H' Sh' s2 a2 => hc .non H' Sh' [] (s2.outs hl hms) (.sh .non) a2
    | brk => exact hc.elim
    | cnt => exact hc.elim
    | ret t => exact fun v σ' H' Sh' A s2 r2 a2 => hc v H' Sh' A (s2.outs hl hms) r2 a2
/-- a program's text as the IR has it -/
structure ProgOk (P : Program) (w : World) (K : PySem.W.Frag) (mg : Str → Option Value) (p : Prog) (cc : CC) where
  fa : Nat → Addr
  defs : ∀ f d, p.defs[f]? = some d → DefOk P w K cc d (fa f)
  fs : cc.fs = p.defs.map (·.name)
  at_ : ∀ f d, p.defs[f]? = some d → mg d.name = some (.ref (fa f))
  bf : ∀ q ∈ bltF, mg q.1 = none
  bt : ∀ q ∈ bltT, mg q.1 = none
  rng : mg "range" = none
  glo : ∀ (g : Nat) (x : Str), cc.gs[g]? = some (some x) → ∃ t v u, (p.glos.map (·.2))[g]? = some t ∧ mg x = some u ∧ RelV v u ∧ ∀ Sh, Rp ⟨P, w, K⟩ Sh v t
  gdc : ∀ (g : Nat) (x : Str), cc.ds[g]? = some (some x) → ∃ o l d kvs, (p.glos.map (·.2))[g]? = some (.dic o l) ∧ mg x = some (.ref d) ∧ KDk P w K d kvs ∧ kvs.map (fun p => keyT p.1) = l.map (·.1) ∧ ∀ Sh, RpL ⟨P, w, K⟩ Sh (kvs.map (·.2)) (l.map (·.2))
theorem tab_len {p : Prog} : ∀ {n f : Nat} {ts : List T} {d : Def}, p.defs[f]? = some d → p.tab n f ts ≠ .no → ts.length = d.ps.length
  | 0, f, ts, d, _, h => (h rfl).elim
  | n + 1, f, ts, d, hd, h => by
    unfold Prog.tab at h
    rw [hd] at h
    unfold Def.run at h
    by_cases hl : ts.length = d.ps.length
    · exact hl
    · simp only [if_neg hl] at h
      exact (h rfl).elim
/-- THE RULE: each def of a program, to any depth -/
theorem all_defs {P : Program} {w : World} {K : PySem.W.Frag} {mg : Str → Option Value} {base : Heap} {p : Prog} {cc : CC} (W : ProgOk P w K mg p cc) : ∀ (n f : Nat) (d : Def) (h : p.defs[f]? = some d),
    FnOk P w K mg base CXn n (W.fa f) (W.defs f d h).fd d.ps (spV ⟨P, w, K⟩ d.ps.length (p.tab n f))
  | 0, f, d, h => by
    refine ⟨fun vs H Q E q => q.1, fun A outer s H args us vs Q E _ _ _ _ ⟨_, _, _, _, _, q⟩ => q.elim⟩
  | n + 1, f, d, h => by
    have e : p.tab (n + 1) f = fun ts => d.run (Cfg.mk (p.glos.map Prod.snd) (p.tab n)) ts := by
      funext ts
      show (match p.defs[f]? with
        | some d => d.run (Cfg.mk (p.glos.map Prod.snd) (p.tab n)) ts
        | none => .no) = _
      rw [h]
    rw [e]
    refine def_step (W.defs f d h) fun X e1 e2 e3 e4 e5 e6 e7 e8 e9 hr => ?_
    subst e1 e2 e3 e4 e5
    refine ⟨e6, (W.defs f d h).sc.nd, e7, e8, by have := hr.un; omega, fun x _ => e9 x, W.bf, W.bt, W.rng, fun g x hx => ?_, W.glo, W.gdc⟩
    have hx : cc.fs[g]? = some x := hx
    rw [W.fs, List.getElem?_map] at hx
    cases q : p.defs[g]? with
    | none => rw [q] at hx; cases hx
    | some d2 =>
      rw [q] at hx; cases hx
      exact ⟨n, W.fa g, (W.defs g d2 q).fd, d2.ps, d2.ps.length, all_defs W n g d2 q, fun ts hts => tab_len q hts, hr, W.at_ g d2 q, (W.defs g d2 q).kp, (W.defs g d2 q).bd⟩
end Vi

set_option autoImplicit false
set_option Elab.async false
set_option linter.all false
set_option maxRecDepth 100000
/-! VI: a law's end: what the head tells of the module. -/
namespace Vi
open PySem PySem.Spec PyProof.Rows L2
mutual
/-- a value of the module stands for t -/
def repC (K : PySem.W.Frag) : T → Value → Bool
  | .non => fun u => match u with
    | .none => true
    | _ => false
  | .bl b => fun u => match u with
    | .bool d => decide (b = d)
    | _ => false
  | .int i => fun u => match u with
    | .int j _ => decide (i = j)
    | _ => false
  | .str s => fun u => match u with
    | .str x _ => decide (s.toArray = x.cps) && decide (s.length ≤ 1000000) && s.all fun c => decide (c < 1114112)
    | _ => false
  | .tup l => fun u => match u with
    | .ref a => (match K.lookup a with
      | some ⟨.type c, _, .seq its _, _⟩ => decide (c = "tuple") && decide (its.size ≤ sizeLine) && repCs K l its.toList
      | _ => false)
    | _ => false
  | _ => fun _ => false
def repCs (K : PySem.W.Frag) : List T → List Value → Bool
  | [] => fun us => match us with
    | [] => true
    | _ => false
  | t :: l => fun us => match us with
    | u :: us => repC K t u && repCs K l us
    | _ => false
end
mutual
theorem repC_ok {K : PySem.W.Frag} : ∀ (t : T) (u : Value), repC K t u = true → ∃ v, L2.RelV v u ∧ ∀ (P : Program) (w : World) (Sh : Hp), Rp ⟨P, w, K⟩ Sh v t
  | .non, u, h => by
    unfold repC at h
    split at h
    · exact ⟨.non, rfl, fun _ _ _ => .non⟩
    · cases h
  | .bl b, u, h => by
    unfold repC at h
    split at h
    · rw [decide_eq_true_eq] at h
      subst h
      exact ⟨.bl b, rfl, fun _ _ _ => .bl _⟩
    · cases h
  | .int i, u, h => by
    unfold repC at h
    split at h
    · rw [decide_eq_true_eq] at h
      subst h
      exact ⟨.int i, ⟨_, rfl⟩, fun _ _ _ => .int _⟩
    · cases h
  | .str s, u, h => by
    unfold repC at h
    split at h
    · rename_i x tk
      simp only [Bool.and_eq_true, decide_eq_true_eq, List.all_eq_true] at h
      obtain ⟨⟨h1, h2⟩, h3⟩ := h
      have e : x = sOf s := by cases x; simp only [sOf]; simp only at h1; rw [h1]
      rw [e]
      exact ⟨.str (sOf s), ⟨_, rfl⟩, fun _ _ _ => .str s ⟨by show s.length ≤ 16777216; omega, fun ch hc => by simpa using h3 ch hc⟩⟩
    · cases h
  | .tup l, u, h => by
    unfold repC at h
    split at h
    · rename_i a
      split at h
      · rename_i c od its n sl e
        simp only [Bool.and_eq_true, decide_eq_true_eq] at h
        obtain ⟨⟨h1, h2⟩, h3⟩ := h
        obtain ⟨vs, hv, hr⟩ := repCs_ok l its.toList h3
        refine ⟨.ref a, rfl, fun P w Sh => ?_⟩
        have q := hr P w Sh
        exact .tup (.inr ⟨_, its, n, e, by rw [h1], rfl, h2, hv⟩) q.1 q.2
      · cases h
    · cases h
  | .und, u, h => by unfold repC at h; cases h
  | .lst _ _, u, h => by unfold repC at h; cases h
  | .dic _ _, u, h => by unfold repC at h; cases h
theorem repCs_ok {K : PySem.W.Frag} : ∀ (l : List T) (us : List Value), repCs K l us = true → ∃ vs, Vals vs us ∧ ∀ (P : Program) (w : World) (Sh : Hp), RpL ⟨P, w, K⟩ Sh vs l
  | [], us, h => by
    unfold repCs at h
    split at h
    · exact ⟨[], .nil, fun _ _ _ => RpL.nil⟩
    · cases h
  | t :: l, us, h => by
    unfold repCs at h
    split at h
    · rename_i u us
      rw [Bool.and_eq_true] at h
      obtain ⟨v, r, q⟩ := repC_ok t u h.1
      obtain ⟨vs, rs, qs⟩ := repCs_ok l us h.2
      exact ⟨v :: vs, .cons r rs, fun P w Sh => RpL.cons (q P w Sh) (qs P w Sh)⟩
    · cases h
end
/-! ### module constants -/
def isDicT : T → Bool
  | .dic _ _ => true
  | _ => false
def glOf (p : Prog) : List (Str × T) := p.glos.filter fun q => !isDicT q.2
def dlOf (p : Prog) : List (Str × List (T × T)) := p.glos.filterMap fun q => match q.2 with
  | .dic _ l => some (q.1, l)
  | _ => none
def gsOf (p : Prog) : List (Option Str) := p.glos.map fun q => if isDicT q.2 then none else some q.1
def dsOf (p : Prog) : List (Option Str) := p.glos.map fun q => if isDicT q.2 then some q.1 else none
def keyOf : T → Key
  | .int i => .inl i
  | .str s => .inr (sOf s)
  | _ => .inl 0
def gloC (K : PySem.W.Frag) (q : Str × T) : Bool := match PySem.W.nsIn K mainGlobals q.1 with
  | some (some u) => repC K q.2 u
  | _ => false
def keyC : T → Value → Bool
  | .int i, .int j _ => decide (i = j)
  | .str s, .str x _ => decide (s.toArray = x.cps)
  | _, _ => false
def dicEs (K : PySem.W.Frag) : List (T × T) → List DictEntry → Bool
  | [], [] => true
  | q :: l, e :: es => keyC q.1 e.key && repC K q.2 e.val && dicEs K l es
  | _, _ => false
def dicAt (K : PySem.W.Frag) (x : Str) : Option (Array DictEntry) := match PySem.W.nsIn K mainGlobals x with
  | some (some (.ref d)) => if d == sysModules then none else (match K.lookup d with
    | some ⟨.type c, none, .dict es _, sl⟩ => if c = "dict" ∧ sl = #[] then some es else none
    | _ => none)
  | _ => none
def dicC (K : PySem.W.Frag) (q : Str × List (T × T)) : Bool := match dicAt K q.1 with
  | some es => dicEs K q.2 es.toList && decide (es.size ≤ sizeLine) && decide ((q.2.map fun p => keyOf p.1).Nodup)
  | none => false
def dicH (K : PySem.W.Frag) (x : Str) : List Int := match dicAt K x with
  | some es => es.toList.map (·.hash)
  | none => []
theorem keyC_ok {t : T} {v : Value} (h : keyC t v = true) : keyIs (keyOf t) v = true ∧ keyT (keyOf t) = t := by
  unfold keyC at h
  split at h
  · rw [decide_eq_true_eq] at h
    subst h
    exact ⟨by simp [keyOf, L2.keyIs, Value.isInt], rfl⟩
  · rename_i s x tk
    rw [decide_eq_true_eq] at h
    have e : x = sOf s := by cases x; simp only [sOf]; simp only at h; rw [h]
    subst e
    refine ⟨by simp [keyOf, L2.keyIs, Value.isStrOf], ?_⟩
    show T.str (sOf s).cps.toList = _
    rw [sOf_cps]
  · cases h
theorem dicEs_ok {P : Program} {w : World} {K : PySem.W.Frag} : ∀ (l : List (T × T)) (es : List DictEntry), dicEs K l es = true → es.map (·.hash) = (l.map fun p => keyH w (keyOf p.1)) →
    ∃ (kvs : List (Key × V)) (vs : List (Key × Value)), KV kvs vs ∧ Pairs (mixKind P w) es vs ∧ kvs.map (fun p => keyT p.1) = l.map (·.1) ∧ (∀ Sh, RpL ⟨P, w, K⟩ Sh (kvs.map (·.2)) (l.map (·.2))) ∧ (∀ e ∈ es, ∃ k, (mixKind P w).is k e.key = true ∧ e.hash = (mixKind P w).hash k) ∧ vs.map (·.1) = l.map fun p => keyOf p.1
  | [], [], _, _ => ⟨[], [], .nil, .nil, rfl, fun _ => RpL.nil, fun e he => by simp at he, rfl⟩
  | [], _ :: _, h, _ => by cases h
  | _ :: _, [], h, _ => by cases h
  | q :: l, e :: es, h, hh => by
    have h : (keyC q.1 e.key && repC K q.2 e.val && dicEs K l es) = true := h
    simp only [Bool.and_eq_true] at h
    rw [List.map_cons, List.map_cons, List.cons.injEq] at hh
    obtain ⟨kvs, vs, a1, a2, a3, a4, a5, a6⟩ := dicEs_ok (P := P) (w := w) l es h.2 hh.2
    obtain ⟨v, r, rp⟩ := repC_ok q.2 e.val h.1.2
    obtain ⟨k1, k2⟩ := keyC_ok h.1.1
    refine ⟨(keyOf q.1, v) :: kvs, (keyOf q.1, e.val) :: vs, .cons ⟨rfl, r⟩ a1, .cons k1 rfl a2, by rw [List.map_cons, List.map_cons, a3, k2], fun Sh => RpL.cons (rp P w Sh) (a4 Sh), fun x hx => ?_, by rw [List.map_cons, List.map_cons, a6]⟩
    rcases List.mem_cons.mp hx with rfl | hx
    · exact ⟨keyOf q.1, k1, hh.1⟩
    · exact a5 x hx
/-! ### the Hook -/
def bltN : List Str := bltF.map (·.1) ++ bltT.map (·.1) ++ ([("range" : Str)] : List Str)
def faOf (p : Prog) : List He.Fa := p.defs.map (fun d => .glo d.name) ++ bltN.map .free
abbrev AlV : Type := He.AlD × Bool × List (List Int)
def obsV (p : Prog) (fn : List He.DefD) (K : PySem.W.Frag) : AlV := (He.obsD (faOf p) fn K, (glOf p).all (gloC K) && (dlOf p).all (dicC K), (dlOf p).map fun q => dicH K q.1)
def valV (p : Prog) (fn : List He.DefD) (w : World) : AlV := (He.valD fn, true, (dlOf p).map fun q => q.2.map fun z => keyH w (keyOf z.1))
def obsVG (n : Nat) (p : Prog) (fn : List He.DefD) (g : Addr → Option Obj) : AlV := obsV p fn (He.frG g (He.asD g n))
def hookV (n : Nat) (p : Prog) (fn : List He.DefD) : PySem.W.Hook where
  α := AlV
  obs := fun s => obsVG n p fn s.heap.get?
  val := fun w => valV p fn w
  says := fun w h => ∃ K : PySem.W.Frag, K.In h ∧ obsV p fn K = valV p fn w
  of := fun _ _ e => ⟨_, He.frG_in, e⟩
  keeps := fun _ _ _ ⟨K, hK, c⟩ k => ⟨K, PySem.W.Frag.In.keeps hK k, c⟩
theorem obsVG_eq {n : Nat} {p : Prog} {fn : List He.DefD} {g : Addr → Option Obj} {s : Shared} (h : ∀ a, g a = s.heap.get? a) : obsVG n p fn g = (hookV n p fn).obs s := by
  have e : g = s.heap.get? := funext h
  rw [e] <;> rfl
/-! ### from the facts to the program -/
def ccOf (p : Prog) : CC := ⟨[], ⟨.function, [], false, false, []⟩, fun _ => true, p.defs.map (·.name), gsOf p, dsOf p, []⟩
structure DefC (p : Prog) (d : Def) (e : He.DefD) : Prop where
  at_ : e.at_ = (d.name, none)
  dfl : e.dfl = []
  kwd : e.kwd = []
  sc : FnScope d.ns d.ps e.scope
  chk : chkSs { ccOf p with N := d.ns, sc := e.scope, fn := fun _ => true, ML := d.ms } d.body e.body = true
  bd : ∀ (kV doc pm : Value) (an : Option Addr) (cdv ct : Value) (us : List Value), us.length = d.ps.length → bindArgs (PySem.W.fnOf e.name e.qual e.params e.body e.scope .none kV doc pm an cdv ct) ⟨us, []⟩ = pure (d.ps.zip us)
theorem paired_at {α β : Type} {r : α → β → Prop} : ∀ {xs : List α} {ys : List β} {i : Nat} {x : α}, Paired r xs ys → xs[i]? = some x → ∃ y, ys[i]? = some y ∧ r x y
  | _, _, _, _, .nil, h => by simp at h
  | _, _, 0, _, .cons h _, e => by simp at e; subst e; exact ⟨_, rfl, h⟩
  | _, _, i + 1, _, .cons _ t, e => by
    obtain ⟨y, h1, h2⟩ := paired_at t (i := i) (by simpa using e)
    exact ⟨y, by simpa using h1, h2⟩
theorem prog_ok {P : Program} {w : World} {K : PySem.W.Frag} {h : Heap} {mg : Str → Option Value} {p : Prog} {fn : List He.DefD} (X : K.In h) (G : h.Ns mainGlobals mg) (c : obsV p fn K = valV p fn w) (hd : Paired (DefC p) p.defs fn) : Nonempty (ProgOk P w K mg p (ccOf p)) := by
  have c1 : He.SaysD (faOf p) fn K := congrArg Prod.fst c
  have c2 : ((glOf p).all (gloC K) && (dlOf p).all (dicC K)) = true := congrArg (fun z : AlV => z.2.1) c
  have c3 : ((dlOf p).map fun q => dicH K q.1) = (dlOf p).map fun q => q.2.map fun z => keyH w (keyOf z.1) := congrArg (fun z : AlV => z.2.2) c
  rw [Bool.and_eq_true] at c2
  have fact : ∀ f ∈ faOf p, f.ok K = true := fun f hf => by
    obtain ⟨i, hi⟩ := List.getElem?_of_mem hf
    exact c1.fact i hi
  have free : ∀ x ∈ bltN, mg x = none := fun x hx => He.free_ok X G (fact (.free x) (List.mem_append_right _ (List.mem_map.mpr ⟨x, hx, rfl⟩)))
  have defs : ∀ (f : Nat) (d : Def), p.defs[f]? = some d → ∃ D : DefOk P w K (ccOf p) d (He.ga K d.name), True := fun f d hf => by
    obtain ⟨e, he, D⟩ := paired_at hd hf
    obtain ⟨fd, F⟩ := c1.def_ f he
    have e1 : e.dvs K = [] := by unfold He.DefD.dvs; rw [D.dfl]; rfl
    have e2 : e.kws K = [] := by unfold He.DefD.kws; rw [D.kwd]; rfl
    have e3 : He.fAd K e.at_ = He.ga K d.name := by rw [D.at_]; rfl
    rw [e1, e2, e3] at F
    exact ⟨⟨e.name, e.qual, e.params, e.body, e.scope, fd, F, D.sc, D.chk, F.kp, F.bindsN D.bd, F.bindsA D.bd⟩, trivial⟩
  refine ⟨⟨fun f => match p.defs[f]? with
    | some d => He.ga K d.name
    | none => 0, fun f d hf => ?_, rfl, fun f d hf => ?_, fun q hq => free _ (by unfold bltN; simp only [List.mem_append, List.mem_map]; exact .inl (.inl ⟨q, hq, rfl⟩)), fun q hq => free _ (by unfold bltN; simp only [List.mem_append, List.mem_map]; exact .inl (.inr ⟨q, hq, rfl⟩)), free _ (by unfold bltN; simp), fun g x hx => ?_, fun g x hx => ?_⟩⟩
  · rw [hf]
    exact Classical.choice (let ⟨D, _⟩ := defs f d hf; ⟨D⟩)
  · rw [hf]
    exact He.glo_ok X G (fact (.glo d.name) (List.mem_append_left _ (List.mem_map.mpr ⟨d, List.mem_of_getElem? hf, rfl⟩)))
  · have hx : (gsOf p)[g]? = some (some x) := hx
    unfold gsOf at hx
    rw [List.getElem?_map] at hx
    obtain ⟨q, hq, e⟩ := Option.map_eq_some_iff.mp hx
    split at e
    · cases e
    · rename_i hn
      cases e
      have hm : q ∈ glOf p := List.mem_filter.mpr ⟨List.mem_of_getElem? hq, by simpa using hn⟩
      have hc := List.all_eq_true.mp c2.1 q hm
      unfold gloC at hc
      split at hc
      · rename_i u hu
        obtain ⟨v, r, rp⟩ := repC_ok q.2 u hc
        exact ⟨q.2, v, u, by rw [List.getElem?_map, hq]; rfl, PySem.W.mg_of X G hu, r, fun Sh => rp P w Sh⟩
      · cases hc
  · have hx : (dsOf p)[g]? = some (some x) := hx
    unfold dsOf at hx
    rw [List.getElem?_map] at hx
    obtain ⟨q, hq, e⟩ := Option.map_eq_some_iff.mp hx
    split at e
    · rename_i hn
      cases e
      obtain ⟨x, t⟩ := q
      cases t with
      | dic o l =>
        have hm : (x, l) ∈ dlOf p := List.mem_filterMap.mpr ⟨(x, .dic o l), List.mem_of_getElem? hq, rfl⟩
        have hc := List.all_eq_true.mp c2.2 _ hm
        have hh : dicH K x = l.map fun z => keyH w (keyOf z.1) := List.map_inj_left.mp c3 (x, l) hm
        unfold dicC at hc
        unfold dicH at hh
        cases qa : dicAt K x with
        | none => rw [qa] at hc; cases hc
        | some es =>
          rw [qa] at hc hh
          simp only [Bool.and_eq_true, decide_eq_true_eq] at hc
          obtain ⟨⟨h1, h2⟩, h3⟩ := hc
          obtain ⟨kvs, vs, a1, a2, a3, a4, a5, a6⟩ := dicEs_ok (P := P) (w := w) l es.toList h1 hh
          unfold dicAt at qa
          split at qa
          · rename_i d hd
            split at qa
            · cases qa
            · rename_i hs
              split at qa
              · rename_i cc es' ep sl hk
                split at qa
                · rename_i hcs
                  cases qa
                  refine ⟨o, l, d, kvs, by rw [List.getElem?_map, hq]; rfl, PySem.W.mg_of X G hd, ⟨by simpa using hs, ?_, fun hp hX => ⟨vs, a1, ?_⟩⟩, a3, a4⟩
                  · have e1 := congrArg List.length a3
                    have e2 := a2.length
                    have e3 := congrArg List.length a6
                    simp only [List.length_map, Array.length_toList] at e1 e2 e3
                    omega
                  · refine ⟨_, es, ep, hX d _ hk, ⟨by rw [hcs.1], rfl, hcs.2⟩, rfl, fun e he => a5 e (Array.mem_def.mp he), a2, ?_⟩
                    rw [a6]; exact h3
                · cases qa
              · cases qa
          · cases qa
      | _ => cases hn
    · cases e
/-- the law's promise, at its script -/
theorem law_sp {P : Program} {w : World} {K : PySem.W.Frag} {p : Prog} {n li : Nat} {ns : List Int} {a : Addr} {H : Hp} {E : XK} (h : ∃ outs, p.tab n li [.lst false (ns.map .int)] = .ret (.bl true) outs) (hS : SqL K H a (ns.map V.int)) :
    spV ⟨P, w, K⟩ 1 (p.tab n li) [.ref a] H (fun v _ => v = .bl true) E := by
  obtain ⟨outs, e⟩ := h
  have r : Rp ⟨P, w, K⟩ H (.ref a) (.lst false (ns.map .int)) := by
    refine .lst hS (by simp) fun i v t h1 h2 => ?_
    rw [List.getElem?_map] at h1 h2
    cases q : ns[i]? with
    | none => rw [q] at h1; cases h1
    | some k => rw [q] at h1 h2; cases h1; cases h2; exact .int k
  refine ⟨rfl, H, [], [.lst false (ns.map .int)], ⟨rfl, fun _ _ z => z, ⟨fun _ => [], fun i t q => ?_, fun _ => ⟨by simp, fun a h => by simp at h⟩, fun _ _ _ a h => by simp at h⟩, ⟨by simp, fun a h => by simp at h⟩, fun p hp => by simp at hp⟩, ?_⟩
  · cases i with
    | zero => cases q; exact ⟨.ref a, rfl, .sh r⟩
    | succ i => simp at q
  · rw [e]
    exact fun v H' Sh' A _ rr _ => rr.blI
/-- the law's argument is bound -/
theorem law_bind {P : Program} {w : World} {K : PySem.W.Frag} {cc : CC} {d : Def} {fa : Addr} (D : DefOk P w K cc d fa) (hp : d.ps = [("script" : Str)]) (s : Shared) (u : Value) : BindsTo s D.fd ⟨[u], []⟩ [(("script" : Str), u)] := by
  have := D.bdA s [u] (by rw [hp]; rfl)
  rw [hp] at this
  exact this
end Vi

set_option autoImplicit false
set_option Elab.async false
set_option linter.all false
set_option maxRecDepth 100000
/-! VI: reckoning with the meaning (for the laws' mathematics). -/
namespace Vi
theorem back_self (e : Env) (is : List Nat) : back e e is = e := by
  apply List.ext_getElem?
  intro j
  rw [back_get']
  by_cases y : j ∈ is
  · rw [if_pos y]
    by_cases h : j < e.length
    · rw [if_pos h, List.getElem?_eq_getElem h]; rfl
    · rw [if_neg h, List.getElem?_eq_none (by omega)]
  · rw [if_neg y]
theorem back_of {e0 e : Env} {is : List Nat} (h : wipe e is = wipe e0 is) : back e0 e is = e0 := by
  rw [← back_wipe, h, back_wipe, back_self]
/-- turns whose body leaves all but the block's own slots as it was: a map with a filter -/
theorem turns_fm {own : List Nat} {body : T → M (Option T)} {g : T → Option T} : ∀ (l : List T) (acc : List T) (e : Env), (∀ x ∈ l, ∃ e1, body x (wipe e own) = .ok (g x) e1 ∧ wipe e1 own = wipe e own) → acc.length + l.length ≤ line →
    ∃ e1, turns own body l acc e = .ok (acc ++ l.filterMap g) e1 ∧ wipe e1 own = wipe e own
  | [], acc, e, _, _ => ⟨e, by simp [turns], rfl⟩
  | x :: r, acc, e, h, hl => by
    obtain ⟨e1, h1, h2⟩ := h x List.mem_cons_self
    have hr : ∀ y ∈ r, ∃ e2, body y (wipe e1 own) = .ok (g y) e2 ∧ wipe e2 own = wipe e1 own := fun y hy => by
      rw [h2]
      exact h y (List.mem_cons_of_mem _ hy)
    rw [List.length_cons] at hl
    show ∃ e3, ((body x (wipe e own)).bind fun o e => match o with
      | some t => if acc.length < line then turns own body r (acc ++ [t]) e else .no
      | none => turns own body r acc e) = _ ∧ _
    rw [h1]
    cases q : g x with
    | none =>
      obtain ⟨e3, h3, h4⟩ := turns_fm r acc e1 hr (by omega)
      exact ⟨e3, by rw [List.filterMap_cons, q]; exact h3, h4.trans h2⟩
    | some t =>
      obtain ⟨e3, h3, h4⟩ := turns_fm r (acc ++ [t]) e1 hr (by rw [List.length_append, List.length_singleton]; omega)
      refine ⟨e3, ?_, h4.trans h2⟩
      rw [List.filterMap_cons, q]
      show (if acc.length < line then turns own body r (acc ++ [t]) e1 else .no) = _
      rw [if_pos (by omega), h3]
      simp
/-- turns whose body changes the state, by a fold -/
theorem turns_fold {own : List Nat} {body : T → M (Option T)} {σ : Type} (env : σ → Env) (st : T → σ → σ) (g : T → σ → T) : ∀ (l : List T) (acc : List T) (s : σ) (e : Env), wipe e own = wipe (env s) own → (∀ x ∈ l, ∀ s, ∃ e1, body x (wipe (env s) own) = .ok (some (g x s)) e1 ∧ wipe e1 own = wipe (env (st x s)) own) → acc.length + l.length ≤ line →
    ∃ e1, turns own body l acc e = .ok (acc ++ (l.foldl (fun (p : List T × σ) x => (p.1 ++ [g x p.2], st x p.2)) ([], s)).1) e1 ∧ wipe e1 own = wipe (env (l.foldl (fun (p : List T × σ) x => (p.1 ++ [g x p.2], st x p.2)) ([], s)).2) own
  | [], acc, s, e, he, _, _ => ⟨e, by simp [turns], he⟩
  | x :: r, acc, s, e, he, h, hl => by
    obtain ⟨e1, h1, h2⟩ := h x List.mem_cons_self s
    rw [List.length_cons] at hl
    have aux : ∀ (l : List T) (a : List T) (s : σ), (l.foldl (fun (p : List T × σ) x => (p.1 ++ [g x p.2], st x p.2)) (a, s)).1 = a ++ (l.foldl (fun (p : List T × σ) x => (p.1 ++ [g x p.2], st x p.2)) ([], s)).1 ∧ (l.foldl (fun (p : List T × σ) x => (p.1 ++ [g x p.2], st x p.2)) (a, s)).2 = (l.foldl (fun (p : List T × σ) x => (p.1 ++ [g x p.2], st x p.2)) ([], s)).2 := by
      intro l
      induction l with
      | nil => intro a s; simp
      | cons y l ih =>
        intro a s
        simp only [List.foldl_cons, List.nil_append]
        obtain ⟨i1, i2⟩ := ih (a ++ [g y s]) (st y s)
        obtain ⟨i3, i4⟩ := ih [g y s] (st y s)
        rw [i1, i2, i3, i4]
        simp
    obtain ⟨e3, h3, h4⟩ := turns_fold env st g r (acc ++ [g x s]) (st x s) e1 h2 (fun y hy => h y (List.mem_cons_of_mem _ hy)) (by rw [List.length_append, List.length_singleton]; omega)
    obtain ⟨a1, a2⟩ := aux r [g x s] (st x s)
    refine ⟨e3, ?_, ?_⟩
    · show ((body x (wipe e own)).bind fun o e => match o with
        | some t => if acc.length < line then turns own body r (acc ++ [t]) e else .no
        | none => turns own body r acc e) = _
      rw [he, h1]
      show (if acc.length < line then turns own body r (acc ++ [g x s]) e1 else .no) = _
      rw [if_pos (by omega), h3, List.foldl_cons, List.nil_append, a1]
      simp
    · rw [List.foldl_cons, List.nil_append, a2]
      exact h4
/-! ### the meaning's equations, without comprehensions, loops and calls -/
section
variable (c : Cfg)
theorem ev_var (i : Nat) : ev c (.var i) = getVar i := rfl
theorem ev_rd (i : Nat) : ev c (.rd i) = rdVar i := rfl
theorem ev_cst (t : T) : ev c (.cst t) = fun e => .ok t e := rfl
theorem ev_glo (g : Nat) : ev c (.glo g) = need (c.glos[g]?) := rfl
theorem ev_tup (es : Es) : ev c (.tup es) = fun e => (evs c es e).bind fun l e => .ok (.tup l) e := rfl
theorem ev_lst (es : Es) : ev c (.lst es) = fun e => (evs c es e).bind fun l e => .ok (.lst true l) e := rfl
theorem ev_dct (es : Es) : ev c (.dct es) = fun e => (evp c es [] e).bind fun l e => .ok (.dic true l) e := rfl
theorem ev_bin (op : Bop) (a b : E) : ev c (.bin op a b) = fun e => (opd (isRd a) (ev c a) e).bind fun o e => (opd (isRd b) (ev c b) e).bind fun p e => fin2 o p (binT op) e := rfl
theorem ev_neg (a : E) : ev c (.neg a) = fun e => (opd (isRd a) (ev c a) e).bind fun o e => fin1 o negT e := rfl
theorem ev_cmp (op : Cop) (a b : E) : ev c (.cmp op a b) = fun e => (opd (isRd a) (ev c a) e).bind fun o e => (opd (isRd b) (ev c b) e).bind fun p e => fin2 o p (fun x y => (cmpT op x y).map .bl) e := rfl
theorem ev_chn (o1 o2 : Cop) (a b d : E) : ev c (.chn o1 o2 a b d) = fun e => (opd (isRd a) (ev c a) e).bind fun o e => (opd (isRd b) (ev c b) e).bind fun p e => (fin2 o p (fun x y => (cmpT o1 x y).map .bl) e).bind fun t e => match t with
    | .bl true => (opd (isRd d) (ev c d) e).bind fun q e => fin2 p q (fun x y => (cmpT o2 x y).map .bl) e
    | .bl false => .ok (.bl false) e
    | _ => .no := rfl
theorem ev_isN (a : E) : ev c (.isN a) = fun e => (opd (isRd a) (ev c a) e).bind fun o e => fin1 o (isNf true) e := rfl
theorem ev_notN (a : E) : ev c (.notN a) = fun e => (opd (isRd a) (ev c a) e).bind fun o e => fin1 o (isNf false) e := rfl
theorem ev_and (es : Es) : ev c (.and es) = evAnd c es := rfl
theorem ev_or (es : Es) : ev c (.or es) = evOr c es := rfl
theorem ev_not (a : E) : ev c (.not a) = fun e => (opd (isRd a) (ev c a) e).bind fun o e => fin1 o (fun t => (tru t).map fun b => .bl (!b)) e := rfl
theorem ev_ite (q a b : E) : ev c (.ite q a b) = fun e => (opd (isRd q) (ev c q) e).bind fun o e => (fin1 o (fun t => (tru t).map .bl) e).bind fun t e => match t with
    | .bl true => strong (isRd a) (ev c a) e
    | .bl false => strong (isRd b) (ev c b) e
    | _ => .no := rfl
theorem ev_idx (a i : E) : ev c (.idx a i) = fun e => (opd (isRd a) (ev c a) e).bind fun o e => (opd (isRd i) (ev c i) e).bind fun p e => fin2 o p idxT e := rfl
theorem ev_sli (a : E) (lo hi : Eo) : ev c (.sli a lo hi) = fun e => (opd (isRd a) (ev c a) e).bind fun o e => (evo c lo e).bind fun l e => (evo c hi e).bind fun h e => fin1 o (fun t => sliT t l h) e := rfl
theorem ev_call (f : Nat) (as : As) : ev c (.call f as) = fun e => (eva c as e).bind fun l e => callM c f l e := rfl
theorem ev_b1 (f : B1) (a : E) : ev c (.b1 f a) = fun e => (opd (isRd a) (ev c a) e).bind fun o e => fin1 o (b1T f) e := rfl
theorem ev_b2 (f : B2) (a b : E) : ev c (.b2 f a b) = fun e => (opd (isRd a) (ev c a) e).bind fun o e => (opd (isRd b) (ev c b) e).bind fun p e => fin2 o p (b2T f) e := rfl
theorem ev_mt (f : Mt) (a b : E) : ev c (.mt f a b) = fun e => (strong (isRd a) (ev c a) e).bind fun t e => match t with
    | .str s => (opd (isRd b) (ev c b) e).bind fun p e => fin1 p (mtT f s) e
    | _ => .no := rfl
theorem ev_isi (ty : Ty) (a : E) : ev c (.isi ty a) = fun e => (opd (isRd a) (ev c a) e).bind fun o e => fin1 o (fun t => (isiT ty t).map .bl) e := rfl
theorem ex_asg (i : Nat) (a : E) : ex c (.asg i a) = fun e => (strong (isRd a) (ev c a) e).bind fun t e => (setVar i t e).bind fun _ e => .ok .nx e := rfl
theorem ex_asgT (tg : Tg) (a : E) : ex c (.asgT tg a) = fun e => (strong (isRd a) (ev c a) e).bind fun t e => (asg tg (fz t) e).bind fun _ e => .ok .nx e := rfl
theorem ex_par (is : List Nat) (es : Es) : ex c (.par is es) = fun e => (evk c es e).bind fun l e => (parM is l e).bind fun _ e => .ok .nx e := rfl
theorem ex_exp (a : E) : ex c (.exp a) = fun e => (strong (isRd a) (ev c a) e).bind fun _ e => .ok .nx e := rfl
theorem ex_ifs (q : E) (a b : Ss) : ex c (.ifs q a b) = fun e => (testM (isRd q) (ev c q) e).bind fun k e => if k then exs c a e else exs c b e := rfl
theorem ex_ret (a : E) : ex c (.ret a) = fun e => (strong (isRd a) (ev c a) e).bind fun t e => .ok (.ret t) e := rfl
theorem ex_retv (i : Nat) : ex c (.retv i) = fun e => match (e[i]?).bind id with
    | some t => .ok (.ret t) (e.set i none)
    | none => .no := rfl
theorem ex_put (i : Nat) (k a : E) (b : Bool) : ex c (.put i k a b) = fun e => (strong (isRd a) (ev c a) e).bind fun t e => if isOwnL e i then (strong (isRd k) (ev c k) e).bind fun z e => (putM1 i (fz z) (kept b t) e).bind fun _ e => .ok .nx e else .no := rfl
theorem ex_app (i : Nat) (a : E) : ex c (.app i a) = fun e => if isOwnL e i then (strong (isRd a) (ev c a) e).bind fun t e => (appM i t e).bind fun _ e => .ok .nx e else .no := rfl
theorem exs_nil : exs c .nil = fun e => .ok .nx e := rfl
theorem exs_cons (s : S) (ss : Ss) : exs c (.cons s ss) = fun e => (ex c s e).bind fun f e => match f with
    | .nx => exs c ss e
    | f => .ok f e := rfl
end
/-- the turns' body of a comprehension -/
theorem ev_lcg {c : Cfg} {elt : E} {tg : Tg} {it : It} {ifs : Es} {own : List Nat} {e e0 : Env} {l : List T} (g : T → Option T) (hi : evi c it e = .ok l e0) (hp : plainAt e0 own = true) (ht : tgIn tg own = true) (hl : l.length ≤ line)
    (hb : ∀ x ∈ l, ∃ e1, ((asg tg x (wipe e0 own)).bind fun _ e => (evT c ifs e).bind fun b e => if b then (strong (isRd elt) (ev c elt) e).bind fun t e => .ok (some (fz t)) e else .ok none e) = .ok (g x) e1 ∧ wipe e1 own = wipe e0 own) : ev c (.lc elt tg it ifs own) e = .ok (.lst true (l.filterMap g)) e0 := by
  obtain ⟨e1, h1, h2⟩ := turns_fm (own := own) (body := lcBody c tg ifs elt) (g := g) l [] e0 hb (by simpa using hl)
  show ((evi c it e).bind fun l e0 => if (plainAt e0 own && tgIn tg own) = true then noEx ((turns own (lcBody c tg ifs elt) l [] e0).bind fun acc e => R.ok (T.lst true acc) (back e0 e own)) else .no) = _
  rw [hi]
  show (if (plainAt e0 own && tgIn tg own) = true then noEx ((turns own (lcBody c tg ifs elt) l [] e0).bind fun acc e' => R.ok (T.lst true acc) (back e0 e' own)) else .no) = _
  rw [hp, ht, h1]
  show R.ok (T.lst true _) (back e0 e1 own) = _
  rw [back_of h2]
  simp
theorem evi_rng {c : Cfg} {a : E} {e e1 : Env} {t : T} {l : List T} (hr : isRd a = none) (h : ev c a e = .ok t e1) (hl : rngT (.int 0) t = some l) : evi c (.rng a) e = .ok l e1 := by
  show (strong (isRd a) (ev c a) e).bind (fun t e => need (rngT (.int 0) t) e) = _
  rw [hr]
  show (ev c a e).bind (fun t e => need (rngT (.int 0) t) e) = _
  rw [h]
  show need (rngT (.int 0) t) e1 = _
  rw [hl]
  rfl
/-- a loop that runs through -/
theorem forL_inv {σ : Type} {tg : T → M Unit} {body : M Fl} (I : σ → Env → Prop) (st : T → σ → σ) : ∀ (l : List T) (s : σ) (e : Env), I s e → (∀ x ∈ l, ∀ s e, I s e → ∃ e1, ((tg x e).bind fun _ e => body e) = .ok .nx e1 ∧ I (st x s) e1) → ∃ e1, forL tg body l e = .ok .nx e1 ∧ I (l.foldl (fun s x => st x s) s) e1
  | [], s, e, h, _ => ⟨e, rfl, h⟩
  | x :: r, s, e, h, hb => by
    obtain ⟨e1, h1, h2⟩ := hb x List.mem_cons_self s e h
    obtain ⟨e2, h3, h4⟩ := forL_inv I st r (st x s) e1 h2 fun y hy => hb y (List.mem_cons_of_mem _ hy)
    refine ⟨e2, ?_, h4⟩
    show ((tg x e).bind fun _ e => (body e).bind fun f e => match f with
      | .nx => forL tg body r e
      | .cnt => forL tg body r e
      | .brk => .ok .nx e
      | .ret t => .ok (.ret t) e) = _
    cases q : tg x e with
    | no => rw [q] at h1; cases h1
    | ex k d e => rw [q] at h1; cases h1
    | ok u e3 =>
      rw [q] at h1
      show ((body e3).bind _) = _
      have h1 : body e3 = .ok .nx e1 := h1
      rw [h1]
      exact h3
theorem ex_for (c : Cfg) (tg : Tg) (it : It) (b : Ss) : ex c (.for tg it b) = fun e => (evi c it e).bind fun l e => forL (asg tg) (exs c b) l e := rfl
theorem exs_nx {c : Cfg} {s : S} {ss : Ss} {e e1 e2 : Env} {f : Fl} (h : ex c s e = .ok .nx e1) (h2 : exs c ss e1 = .ok f e2) : exs c (.cons s ss) e = .ok f e2 := by
  show ((ex c s e).bind fun f e => match f with
    | .nx => exs c ss e
    | f => .ok f e) = _
  rw [h]
  exact h2
theorem exs_ret {c : Cfg} {s : S} {ss : Ss} {e e1 : Env} {t : T} (h : ex c s e = .ok (.ret t) e1) : exs c (.cons s ss) e = .ok (.ret t) e1 := by
  show ((ex c s e).bind fun f e => match f with
    | .nx => exs c ss e
    | f => .ok f e) = _
  rw [h]
  rfl
/-- a def's end -/
theorem run_ret {c : Cfg} {d : Def} {ts : List T} {t : T} {e : Env} (hl : ts.length = d.ps.length) (h : exs c d.body (ts.map some ++ List.replicate (d.ns.length - d.ps.length) none) = .ok (.ret t) e) : d.run c ts = .ret t (outsOf d e) := by
  unfold Def.run
  rw [if_pos hl, h]
theorem run_nx {c : Cfg} {d : Def} {ts : List T} {e : Env} (hl : ts.length = d.ps.length) (h : exs c d.body (ts.map some ++ List.replicate (d.ns.length - d.ps.length) none) = .ok .nx e) : d.run c ts = .ret .non (outsOf d e) := by
  unfold Def.run
  rw [if_pos hl, h]
theorem and_next {c : Cfg} {a b : E} {es : Es} {e e1 : Env} {t : T} {r : R T} (hr : isRd a = none) (h : ev c a e = .ok t e1) (ht : tru t = some true) (h2 : evAnd c (.cons b es) e1 = r) : evAnd c (.cons a (.cons b es)) e = r := by
  show ((strong (isRd a) (ev c a) e).bind fun t e => match tru t with
      | some true => evAnd c (.cons b es) e
      | some false => R.ok t e
      | none => R.no) = _
  rw [hr]
  show ((ev c a e).bind _) = _
  rw [h]
  show (match tru t with
      | some true => evAnd c (.cons b es) e1
      | some false => R.ok t e1
      | none => R.no) = _
  rw [ht]
  exact h2
theorem and_last {c : Cfg} {a : E} {e : Env} {r : R T} (hr : isRd a = none) (h : ev c a e = r) : evAnd c (.cons a .nil) e = r := by
  show strong (isRd a) (ev c a) e = _
  rw [hr]
  exact h
theorem or_next {c : Cfg} {a b : E} {es : Es} {e e1 : Env} {t : T} {r : R T} (hr : isRd a = none) (h : ev c a e = .ok t e1) (ht : tru t = some false) (h2 : evOr c (.cons b es) e1 = r) : evOr c (.cons a (.cons b es)) e = r := by
  show ((strong (isRd a) (ev c a) e).bind fun t e => match tru t with
      | some true => R.ok t e
      | some false => evOr c (.cons b es) e
      | none => .no) = _
  rw [hr]
  show ((ev c a e).bind _) = _
  rw [h]
  show (match tru t with
      | some true => R.ok t e1
      | some false => evOr c (.cons b es) e1
      | none => R.no) = _
  rw [ht]
  exact h2
theorem or_last {c : Cfg} {a : E} {e : Env} {r : R T} (hr : isRd a = none) (h : ev c a e = r) : evOr c (.cons a .nil) e = r := by
  show strong (isRd a) (ev c a) e = _
  rw [hr]
  exact h
theorem ret_of {c : Cfg} {a : E} {e e1 : Env} {t : T} (hr : isRd a = none) (h : ev c a e = .ok t e1) : ex c (.ret a) e = .ok (.ret t) e1 := by
  show ((strong (isRd a) (ev c a) e).bind fun t e => R.ok (Fl.ret t) e) = _
  rw [hr]
  show ((ev c a e).bind fun t e => R.ok (Fl.ret t) e) = _
  rw [h]
  rfl
theorem exp_of {c : Cfg} {a : E} {e e1 : Env} {t : T} (hr : isRd a = none) (h : ev c a e = .ok t e1) : ex c (.exp a) e = .ok .nx e1 := by
  show ((strong (isRd a) (ev c a) e).bind fun _ e => R.ok Fl.nx e) = _
  rw [hr]
  show ((ev c a e).bind fun _ e => R.ok Fl.nx e) = _
  rw [h]
  rfl
theorem all_of {c : Cfg} {a : E} {e e1 : Env} {bs : List Bool} {o : Bool} (hr : isRd a = none) (h : ev c a e = .ok (.lst o (bs.map .bl)) e1) (hb : bls? (bs.map .bl) = some bs) : ev c (.b1 .all a) e = .ok (.bl (bs.all id)) e1 := by
  show ((opd (isRd a) (ev c a) e).bind fun o e => fin1 o (b1T .all) e) = _
  rw [hr]
  show (((ev c a e).bind fun t e => R.ok (O.v t) e).bind fun o e => fin1 o (b1T .all) e) = _
  rw [h]
  show need ((bls? (bs.map .bl)).map fun bs => T.bl (bs.all id)) e1 = _
  rw [hb]
  rfl
theorem fm_true {α : Type} : ∀ l : List α, (l.filterMap fun _ => some (T.bl true)) = (l.map fun _ => true).map .bl
  | [] => rfl
  | a :: l => by rw [List.filterMap_cons]; simp only [List.map_cons]; rw [fm_true l]
/-! ### two clauses -/
theorem turns2_fm {own : List Nat} {body : T → List T → M (List T)} {g : T → List T} : ∀ (l : List T) (acc : List T) (e : Env), (∀ x ∈ l, ∀ acc : List T, acc.length + (g x).length ≤ line → ∃ e1, body x acc (wipe e own) = .ok (acc ++ g x) e1 ∧ wipe e1 own = wipe e own) → acc.length + (l.flatMap g).length ≤ line →
    ∃ e1, turns2 own body l acc e = .ok (acc ++ l.flatMap g) e1 ∧ wipe e1 own = wipe e own
  | [], acc, e, _, _ => ⟨e, by simp [turns2], rfl⟩
  | x :: r, acc, e, h, hl => by
    rw [List.flatMap_cons, List.length_append] at hl
    obtain ⟨e1, h1, h2⟩ := h x List.mem_cons_self acc (by omega)
    obtain ⟨e3, h3, h4⟩ := turns2_fm r (acc ++ g x) e1 (fun y hy a ha => by
      rw [h2]
      exact h y (List.mem_cons_of_mem _ hy) a ha) (by rw [List.length_append]; omega)
    refine ⟨e3, ?_, h4.trans h2⟩
    show ((body x acc (wipe e own)).bind fun acc e => turns2 own body r acc e) = _
    rw [h1]
    show turns2 own body r (acc ++ g x) e1 = _
    rw [h3, List.flatMap_cons, List.append_assoc]
theorem ev_lc2g {c : Cfg} {elt : E} {tg tg2 : Tg} {it it2 : It} {ifs ifs2 : Es} {own own2 : List Nat} {e e0 : Env} {l : List T} (g : T → List T) (hi : evi c it e = .ok l e0) (hp : (plainAt e0 own && tgIn tg own && tgIn tg2 own2 && own2.all own.contains) = true) (hl : (l.flatMap g).length ≤ line)
    (hb : ∀ x ∈ l, ∀ acc : List T, acc.length + (g x).length ≤ line → ∃ e1, ((asg tg x (wipe e0 own)).bind fun _ e => (evT c ifs e).bind fun b e => if b then (evi c it2 e).bind fun l2 e => turns own2 (fun x e => (asg tg2 x e).bind fun _ e => (evT c ifs2 e).bind fun b e =>
        if b then (strong (isRd elt) (ev c elt) e).bind fun t e => .ok (some (fz t)) e else .ok none e) l2 acc e else .ok acc e) = .ok (acc ++ g x) e1 ∧ wipe e1 own = wipe e0 own) : ev c (.lc2 elt tg it ifs tg2 it2 ifs2 own own2) e = .ok (.lst true (l.flatMap g)) e0 := by
  obtain ⟨e1, h1, h2⟩ := turns2_fm (own := own) (g := g) (body := fun x acc e => (asg tg x e).bind fun _ e => (evT c ifs e).bind fun b e => if b then (evi c it2 e).bind fun l2 e => turns own2 (fun x e => (asg tg2 x e).bind fun _ e => (evT c ifs2 e).bind fun b e =>
        if b then (strong (isRd elt) (ev c elt) e).bind fun t e => .ok (some (fz t)) e else .ok none e) l2 acc e else .ok acc e) l [] e0 hb (by simpa using hl)
  show ((evi c it e).bind fun l e0 => if (plainAt e0 own && tgIn tg own && tgIn tg2 own2 && own2.all own.contains) = true then noEx ((turns2 own (fun x acc e => (asg tg x e).bind fun _ e => (evT c ifs e).bind fun b e => if b then (evi c it2 e).bind fun l2 e => turns own2 (fun x e => (asg tg2 x e).bind fun _ e => (evT c ifs2 e).bind fun b e =>
        if b then (strong (isRd elt) (ev c elt) e).bind fun t e => .ok (some (fz t)) e else .ok none e) l2 acc e else .ok acc e) l [] e0).bind fun acc e => R.ok (T.lst true acc) (back e0 e own)) else .no) = _
  rw [hi]
  show (if (plainAt e0 own && tgIn tg own && tgIn tg2 own2 && own2.all own.contains) = true then noEx ((turns2 own (fun x acc e => (asg tg x e).bind fun _ e => (evT c ifs e).bind fun b e => if b then (evi c it2 e).bind fun l2 e => turns own2 (fun x e => (asg tg2 x e).bind fun _ e => (evT c ifs2 e).bind fun b e =>
        if b then (strong (isRd elt) (ev c elt) e).bind fun t e => .ok (some (fz t)) e else .ok none e) l2 acc e else .ok acc e) l [] e0).bind fun acc e' => R.ok (T.lst true acc) (back e0 e' own)) else .no) = _
  rw [hp, h1]
  show R.ok (T.lst true _) (back e0 e1 own) = _
  rw [back_of h2]
  simp
theorem evi_rng2 {c : Cfg} {a b : E} {e e1 e2 : Env} {t u : T} {l : List T} (hr : isRd a = none) (hr2 : isRd b = none) (h : ev c a e = .ok t e1) (h2 : ev c b e1 = .ok u e2) (hl : rngT t u = some l) : evi c (.rng2 a b) e = .ok l e2 := by
  show (strong (isRd a) (ev c a) e).bind (fun t e => (strong (isRd b) (ev c b) e).bind fun u e => need (rngT t u) e) = _
  rw [hr, hr2]
  show (ev c a e).bind (fun t e => (ev c b e).bind fun u e => need (rngT t u) e) = _
  rw [h]
  show (ev c b e1).bind (fun u e => need (rngT t u) e) = _
  rw [h2]
  show need (rngT t u) e2 = _
  rw [hl]
  rfl
theorem rngT_ok {a b : Int} (h : small62 a = true) (h2 : small62 b = true) : rngT (.int a) (.int b) = some (upto a b) := by
  show (if (small62 a && small62 b) = true then some (upto a b) else none) = _
  rw [h, h2]; rfl
/-- a comprehension that draws: values and the state behind them -/
def runF {σ : Type} (g : T → σ → T) (st : T → σ → σ) (l : List T) (s : σ) : List T × σ := l.foldl (fun (p : List T × σ) x => (p.1 ++ [g x p.2], st x p.2)) ([], s)
theorem ev_lcf {c : Cfg} {elt : E} {tg : Tg} {it : It} {ifs : Es} {own : List Nat} {e e0 : Env} {l : List T} {σ : Type} (env : σ → Env) (g : T → σ → T) (st : T → σ → σ) (s : σ) (hi : evi c it e = .ok l e0) (he : e0 = env s) (hp : plainAt e0 own = true) (ht : tgIn tg own = true) (hl : l.length ≤ line)
    (hb : ∀ x ∈ l, ∀ s, ∃ e1, ((asg tg x (wipe (env s) own)).bind fun _ e => (evT c ifs e).bind fun b e => if b then (strong (isRd elt) (ev c elt) e).bind fun t e => .ok (some (fz t)) e else .ok none e) = .ok (some (g x s)) e1 ∧ wipe e1 own = wipe (env (st x s)) own) :
    ev c (.lc elt tg it ifs own) e = .ok (.lst true (runF g st l s).1) (back e0 (env (runF g st l s).2) own) := by
  obtain ⟨e1, h1, h2⟩ := turns_fold (own := own) (body := lcBody c tg ifs elt) env st g l [] s e0 (by rw [he]) hb (by simpa using hl)
  show ((evi c it e).bind fun l e0 => if (plainAt e0 own && tgIn tg own) = true then noEx ((turns own (lcBody c tg ifs elt) l [] e0).bind fun acc e => R.ok (T.lst true acc) (back e0 e own)) else .no) = _
  rw [hi]
  show (if (plainAt e0 own && tgIn tg own) = true then noEx ((turns own (lcBody c tg ifs elt) l [] e0).bind fun acc e' => R.ok (T.lst true acc) (back e0 e' own)) else .no) = _
  rw [hp, ht, h1]
  show R.ok (T.lst true ([] ++ (runF g st l s).1)) (back e0 e1 own) = _
  have h2 : wipe e1 own = wipe (env (runF g st l s).2) own := h2
  rw [← back_wipe e0 e1, h2, back_wipe]
  simp
end Vi

set_option autoImplicit true
set_option maxRecDepth 100000
set_option maxHeartbeats 0
namespace ViLaw
open Vi PySem PySem.Spec PyProof.Rows L2
def d_is_number : Def := ⟨PySem.Str.ofString "is_number", [PySem.Str.ofString "value", PySem.Str.ofString "least", PySem.Str.ofString "most"], [PySem.Str.ofString "value", PySem.Str.ofString "least", PySem.Str.ofString "most"], [], (.cons (.ret (.and (.cons (.isi .int (.rd 0)) (.cons (.not (.isi .bool (.rd 0))) (.cons (.chn .le .le (.rd 1) (.rd 0) (.rd 2)) .nil))))) .nil)⟩
def d_is_among : Def := ⟨PySem.Str.ofString "is_among", [PySem.Str.ofString "words", PySem.Str.ofString "value"], [PySem.Str.ofString "words", PySem.Str.ofString "value"], [], (.cons (.ret (.and (.cons (.isi .str (.rd 1)) (.cons (.cmp .inn (.rd 1) (.rd 0)) .nil)))) .nil)⟩
def d_is_worths : Def := ⟨PySem.Str.ofString "is_worths", [PySem.Str.ofString "value"], [PySem.Str.ofString "value", PySem.Str.ofString "worth"], [], (.cons (.ret (.and (.cons (.isi .tuple (.rd 0)) (.cons (.chn .le .le (.cst (.int 1)) (.b1 .len (.rd 0)) (.cst (.int 3))) (.cons (.b1 .all (.lc (.call 0 (.val (.var 1) (.val (.cst (.int 1)) (.val (.cst (.int 3)) .nil)))) (.nm 1) (.of (.var 0)) .nil [1])) .nil))))) .nil)⟩
def d_is_row_of : Def := ⟨PySem.Str.ofString "is_row_of", [PySem.Str.ofString "worths", PySem.Str.ofString "value"], [PySem.Str.ofString "worths", PySem.Str.ofString "value", PySem.Str.ofString "letter"], [], (.cons (.ifs (.or (.cons (.not (.isi .str (.rd 1))) (.cons (.cmp .gt (.b1 .len (.rd 1)) (.cst (.int 40))) .nil))) (.cons (.ret (.cst (.bl false))) .nil) .nil) (.cons (.ret (.b1 .all (.lc (.cmp .inn (.rd 2) (.sli (.glo 0) .non (.som (.b1 .len (.rd 0))))) (.nm 2) (.of (.var 1)) .nil [2]))) .nil))⟩
def d_is_wish : Def := ⟨PySem.Str.ofString "is_wish", [PySem.Str.ofString "value"], [PySem.Str.ofString "value"], [], (.cons (.ifs (.or (.cons (.not (.isi .tuple (.rd 0))) (.cons (.cmp .ne (.b1 .len (.rd 0)) (.cst (.int 4))) (.cons (.not (.call 1 (.val (.b1 .list (.gdct 1)) (.val (.idx (.rd 0) (.cst (.int 0))) .nil)))) .nil)))) (.cons (.ret (.cst (.bl false))) .nil) .nil) (.cons (.ifs (.or (.cons (.not (.call 1 (.val (.idx (.gdct 1) (.idx (.rd 0) (.cst (.int 0)))) (.val (.idx (.rd 0) (.cst (.int 1))) .nil)))) (.cons (.not (.call 0 (.val (.idx (.rd 0) (.cst (.int 2))) (.val (.cst (.int 1)) (.val (.cst (.int 5)) .nil))))) .nil))) (.cons (.ret (.cst (.bl false))) .nil) .nil) (.cons (.ifs (.cmp .eq (.idx (.rd 0) (.cst (.int 0))) (.cst (.str [110, 117, 109, 98, 101, 114]))) (.cons (.ret (.call 0 (.val (.idx (.rd 0) (.cst (.int 3))) (.val (.cst (.int 0)) (.val (.cst (.int 0)) .nil))))) .nil) .nil) (.cons (.ret (.or (.cons (.isN (.idx (.rd 0) (.cst (.int 3)))) (.cons (.and (.cons (.cmp .inn (.idx (.rd 0) (.cst (.int 0))) (.tup (.cons (.cst (.str [108, 111, 110, 103, 101, 115, 116])) (.cons (.cst (.str [103, 114, 101, 97, 116, 101, 115, 116])) .nil)))) (.cons (.call 0 (.val (.idx (.rd 0) (.cst (.int 3))) (.val (.neg (.cst (.int 1))) (.val (.cst (.int 0)) .nil)))) .nil))) .nil)))) .nil))))⟩
def d_need_worths : Def := ⟨PySem.Str.ofString "need_worths", [PySem.Str.ofString "value"], [PySem.Str.ofString "value"], [], (.cons (.ifs (.not (.call 2 (.val (.var 0) .nil))) (.cons (.rai 1 .non) .nil) .nil) .nil)⟩
def d_need_wish : Def := ⟨PySem.Str.ofString "need_wish", [PySem.Str.ofString "value"], [PySem.Str.ofString "value"], [], (.cons (.ifs (.not (.call 4 (.val (.var 0) .nil))) (.cons (.rai 2 .non) .nil) .nil) .nil)⟩
def d_need_row : Def := ⟨PySem.Str.ofString "need_row", [PySem.Str.ofString "worths", PySem.Str.ofString "value"], [PySem.Str.ofString "worths", PySem.Str.ofString "value"], [], (.cons (.ifs (.not (.call 3 (.val (.var 0) (.val (.var 1) .nil)))) (.cons (.rai 3 .non) .nil) .nil) .nil)⟩
def d_worth_of : Def := ⟨PySem.Str.ofString "worth_of", [PySem.Str.ofString "worths", PySem.Str.ofString "letter"], [PySem.Str.ofString "worths", PySem.Str.ofString "letter"], [], (.cons (.ret (.idx (.rd 0) (.mt .index (.glo 0) (.rd 1)))) .nil)⟩
def d_total_of : Def := ⟨PySem.Str.ofString "total_of", [PySem.Str.ofString "worths", PySem.Str.ofString "letters"], [PySem.Str.ofString "worths", PySem.Str.ofString "letters", PySem.Str.ofString "letter"], [], (.cons (.ret (.b1 .sum (.lc (.call 8 (.val (.var 0) (.val (.var 2) .nil))) (.nm 2) (.of (.var 1)) .nil [2]))) .nil)⟩
def d_fits : Def := ⟨PySem.Str.ofString "fits", [PySem.Str.ofString "worths", PySem.Str.ofString "wish", PySem.Str.ofString "letters"], [PySem.Str.ofString "worths", PySem.Str.ofString "wish", PySem.Str.ofString "letters", PySem.Str.ofString "total", PySem.Str.ofString "kind", PySem.Str.ofString "sign", PySem.Str.ofString "number", PySem.Str.ofString "none"], [], (.cons (.asgT (.tp (.cons (.nm 4) (.cons (.nm 5) (.cons (.nm 6) (.cons (.nm 7) .nil))))) (.var 1)) (.cons (.ifs (.cmp .eq (.rd 5) (.cst (.str [115, 105, 122, 101]))) (.cons (.ret (.cmp .eq (.b1 .len (.rd 2)) (.rd 6))) .nil) .nil) (.cons (.asg 3 (.call 9 (.val (.var 0) (.val (.var 2) .nil)))) (.cons (.ifs (.cmp .eq (.rd 5) (.cst (.str [109, 111, 115, 116]))) (.cons (.ret (.cmp .le (.rd 3) (.rd 6))) .nil) .nil) (.cons (.ret (.ite (.cmp .eq (.rd 5) (.cst (.str [108, 101, 97, 115, 116]))) (.cmp .ge (.rd 3) (.rd 6)) (.cmp .eq (.rd 3) (.rd 6)))) .nil)))))⟩
def d_note_of : Def := ⟨PySem.Str.ofString "note_of", [PySem.Str.ofString "worths", PySem.Str.ofString "wish", PySem.Str.ofString "letters"], [PySem.Str.ofString "worths", PySem.Str.ofString "wish", PySem.Str.ofString "letters"], [], (.cons (.ifs (.cmp .inn (.idx (.rd 1) (.cst (.int 0))) (.tup (.cons (.cst (.str [103, 114, 101, 97, 116, 101, 115, 116])) (.cons (.cst (.str [115, 109, 97, 108, 108, 101, 115, 116])) .nil)))) (.cons (.ret (.tup (.cons (.ite (.cmp .eq (.idx (.rd 1) (.cst (.int 0))) (.cst (.str [103, 114, 101, 97, 116, 101, 115, 116]))) (.cst (.str [109, 111, 115, 116])) (.cst (.str [108, 101, 97, 115, 116]))) (.cons (.call 9 (.val (.var 0) (.val (.var 2) .nil))) .nil)))) .nil) .nil) (.cons (.ifs (.cmp .eq (.idx (.rd 1) (.cst (.int 0))) (.cst (.str [110, 117, 109, 98, 101, 114]))) (.cons (.ret (.tup (.cons (.cst (.str [99, 111, 117, 110, 116])) (.cons (.cst (.int 1)) .nil)))) .nil) .nil) (.cons (.ret (.tup (.cons (.ite (.cmp .eq (.idx (.rd 1) (.cst (.int 0))) (.cst (.str [108, 111, 110, 103, 101, 115, 116]))) (.cst (.str [109, 111, 115, 116])) (.cst (.str [108, 101, 97, 115, 116]))) (.cons (.b1 .len (.rd 2)) .nil)))) .nil)))⟩
def d_taken_in : Def := ⟨PySem.Str.ofString "taken_in", [PySem.Str.ofString "worths", PySem.Str.ofString "wish", PySem.Str.ofString "suffix", PySem.Str.ofString "letter"], [PySem.Str.ofString "worths", PySem.Str.ofString "wish", PySem.Str.ofString "suffix", PySem.Str.ofString "letter", PySem.Str.ofString "letters", PySem.Str.ofString "some", PySem.Str.ofString "at", PySem.Str.ofString "window"], [], (.cons (.asg 4 (.sli (.bin .add (.rd 2) (.rd 3)) (.som (.neg (.idx (.rd 1) (.cst (.int 2))))) .non)) (.cons (.asg 5 (.lc (.sli (.rd 4) (.som (.var 6)) .non) (.nm 6) (.rng (.b1 .len (.rd 4))) .nil [6])) (.cons (.ret (.tup (.cons (.var 4) (.cons (.lc (.call 11 (.val (.var 0) (.val (.var 1) (.val (.var 7) .nil)))) (.nm 7) (.of (.var 5)) (.cons (.call 10 (.val (.var 0) (.val (.var 1) (.val (.var 7) .nil)))) .nil) [7]) .nil)))) .nil)))⟩
def d_answered : Def := ⟨PySem.Str.ofString "answered", [PySem.Str.ofString "wish", PySem.Str.ofString "answer", PySem.Str.ofString "notes"], [PySem.Str.ofString "wish", PySem.Str.ofString "answer", PySem.Str.ofString "notes", PySem.Str.ofString "word", PySem.Str.ofString "amount"], [], (.cons (.for (.tp (.cons (.nm 3) (.cons (.nm 4) .nil))) (.of (.var 2)) (.cons (.ifs (.cmp .eq (.rd 3) (.cst (.str [99, 111, 117, 110, 116]))) (.cons (.asg 1 (.bin .add (.rd 1) (.rd 4))) .nil) (.cons (.ifs (.or (.cons (.isN (.rd 1)) (.cons (.and (.cons (.cmp .eq (.rd 3) (.cst (.str [109, 111, 115, 116]))) (.cons (.cmp .gt (.rd 4) (.rd 1)) .nil))) (.cons (.and (.cons (.cmp .eq (.rd 3) (.cst (.str [108, 101, 97, 115, 116]))) (.cons (.cmp .lt (.rd 4) (.rd 1)) .nil))) .nil)))) (.cons (.asg 1 (.var 4)) .nil) .nil) .nil)) .nil)) (.cons (.retv 1) .nil))⟩
def d_start_answer : Def := ⟨PySem.Str.ofString "start_answer", [PySem.Str.ofString "wish"], [PySem.Str.ofString "wish"], [], (.cons (.ret (.ite (.cmp .eq (.idx (.rd 0) (.cst (.int 0))) (.cst (.str [110, 117, 109, 98, 101, 114]))) (.cst (.int 0)) (.cst .non))) .nil)⟩
def d_final_answer : Def := ⟨PySem.Str.ofString "final_answer", [PySem.Str.ofString "wish", PySem.Str.ofString "answer"], [PySem.Str.ofString "wish", PySem.Str.ofString "answer"], [], (.cons (.ret (.ite (.isN (.rd 1)) (.idx (.rd 0) (.cst (.int 3))) (.var 1))) .nil)⟩
def d_answer_for : Def := ⟨PySem.Str.ofString "answer_for", [PySem.Str.ofString "worths", PySem.Str.ofString "wish", PySem.Str.ofString "row"], [PySem.Str.ofString "worths", PySem.Str.ofString "wish", PySem.Str.ofString "row", PySem.Str.ofString "letter", PySem.Str.ofString "suffix", PySem.Str.ofString "answer", PySem.Str.ofString "notes"], [], (.cons (.par [4, 5] (.cons (.cst (.str [])) (.cons (.call 14 (.val (.var 1) .nil)) .nil))) (.cons (.for (.nm 3) (.of (.var 2)) (.cons (.asgT (.tp (.cons (.nm 4) (.cons (.nm 6) .nil))) (.call 12 (.val (.var 0) (.val (.var 1) (.val (.var 4) (.val (.var 3) .nil)))))) (.cons (.asg 5 (.call 13 (.val (.var 1) (.val (.var 5) (.val (.var 6) .nil))))) .nil))) (.cons (.ret (.call 15 (.val (.var 1) (.val (.var 5) .nil)))) .nil)))⟩
def d_need_three : Def := ⟨PySem.Str.ofString "need_three", [PySem.Str.ofString "worths", PySem.Str.ofString "wish", PySem.Str.ofString "row"], [PySem.Str.ofString "worths", PySem.Str.ofString "wish", PySem.Str.ofString "row"], [], (.cons (.exp (.call 5 (.val (.var 0) .nil))) (.cons (.exp (.call 6 (.val (.var 1) .nil))) (.cons (.exp (.call 7 (.val (.var 0) (.val (.var 2) .nil)))) .nil)))⟩
def d_right_answer : Def := ⟨PySem.Str.ofString "right_answer", [PySem.Str.ofString "worths", PySem.Str.ofString "wish", PySem.Str.ofString "row"], [PySem.Str.ofString "worths", PySem.Str.ofString "wish", PySem.Str.ofString "row"], [], (.cons (.exp (.call 17 (.val (.var 0) (.val (.var 1) (.val (.var 2) .nil))))) (.cons (.ret (.call 16 (.val (.var 0) (.val (.var 1) (.val (.var 2) .nil))))) .nil))⟩
def d_fitting : Def := ⟨PySem.Str.ofString "fitting", [PySem.Str.ofString "worths", PySem.Str.ofString "wish", PySem.Str.ofString "row"], [PySem.Str.ofString "worths", PySem.Str.ofString "wish", PySem.Str.ofString "row", PySem.Str.ofString "rows", PySem.Str.ofString "start", PySem.Str.ofString "end"], [], (.cons (.exp (.call 17 (.val (.var 0) (.val (.var 1) (.val (.var 2) .nil))))) (.cons (.asg 3 (.lc2 (.tup (.cons (.var 4) (.cons (.var 5) .nil))) (.nm 4) (.rng (.b1 .len (.rd 2))) .nil (.nm 5) (.rng2 (.bin .add (.rd 4) (.cst (.int 1))) (.bin .add (.b1 .len (.rd 2)) (.cst (.int 1)))) .nil [4, 5] [5])) (.cons (.ret (.lc (.tup (.cons (.var 4) (.cons (.var 5) .nil))) (.tp (.cons (.nm 4) (.cons (.nm 5) .nil))) (.of (.var 3)) (.cons (.call 10 (.val (.var 0) (.val (.var 1) (.val (.sli (.rd 2) (.som (.var 4)) (.som (.var 5))) .nil)))) .nil) [4, 5])) .nil)))⟩
def l_source : Def := ⟨PySem.Str.ofString "_law_source", [PySem.Str.ofString "script", PySem.Str.ofString "k"], [PySem.Str.ofString "script", PySem.Str.ofString "k", PySem.Str.ofString "cell"], [], (.cons (.asg 2 (.cst (.int 0))) (.cons (.ifs (.cmp .lt (.rd 1) (.b1 .len (.rd 0))) (.cons (.asg 2 (.b1 .abs (.b1 .int (.idx (.rd 0) (.rd 1))))) .nil) .nil) (.cons (.ifs (.cmp .lt (.rd 2) (.bin .pow (.cst (.int 10)) (.cst (.int 18)))) (.cons (.ret (.lst (.cons (.cst (.int 0)) (.cons (.bin .add (.cst (.int 1)) (.bin .mod (.b1 .int (.bin .add (.bin .mul (.rd 2) (.cst (.int 7919))) (.bin .mul (.cst (.int 104729)) (.rd 1)))) (.cst (.int 2147483646)))) .nil)))) .nil) .nil) (.cons (.ret (.lst (.cons (.var 2) (.cons (.bin .add (.cst (.int 1)) (.bin .mod (.b1 .int (.bin .add (.rd 2) (.rd 1))) (.cst (.int 2147483646)))) .nil)))) .nil))))⟩
def l_draw : Def := ⟨PySem.Str.ofString "_law_draw", [PySem.Str.ofString "source", PySem.Str.ofString "many"], [PySem.Str.ofString "source", PySem.Str.ofString "many", PySem.Str.ofString "found"], [0], (.cons (.ifs (.cmp .gt (.idx (.rd 0) (.cst (.int 0))) (.cst (.int 0))) (.cons (.asg 2 (.bin .mod (.b1 .int (.idx (.rd 0) (.cst (.int 0)))) (.rd 1))) (.cons (.put 0 (.cst (.int 0)) (.bin .fdiv (.idx (.rd 0) (.cst (.int 0))) (.rd 1)) false) (.cons (.retv 2) .nil))) .nil) (.cons (.put 0 (.cst (.int 1)) (.bin .mod (.b1 .int (.bin .mul (.idx (.rd 0) (.cst (.int 1))) (.cst (.int 48271)))) (.cst (.int 2147483647))) false) (.cons (.ret (.bin .mod (.b1 .int (.bin .fdiv (.bin .mod (.b1 .int (.bin .mul (.idx (.rd 0) (.cst (.int 1))) (.idx (.rd 0) (.cst (.int 1))))) (.cst (.int 2147483629))) (.cst (.int 64)))) (.rd 1))) .nil)))⟩
def l_of : Def := ⟨PySem.Str.ofString "_law_of", [PySem.Str.ofString "source", PySem.Str.ofString "items"], [PySem.Str.ofString "source", PySem.Str.ofString "items"], [0], (.cons (.ret (.idx (.rd 1) (.call 21 (.mut 0 (.val (.b1 .len (.rd 1)) .nil))))) .nil)⟩
def l_worths : Def := ⟨PySem.Str.ofString "_law_worths", [PySem.Str.ofString "source"], [PySem.Str.ofString "source", PySem.Str.ofString "turn"], [0], (.cons (.ret (.b1 .tuple (.lc (.bin .add (.cst (.int 1)) (.call 21 (.mut 0 (.val (.cst (.int 3)) .nil)))) (.nm 1) (.rng (.bin .add (.cst (.int 1)) (.call 21 (.mut 0 (.val (.cst (.int 3)) .nil))))) .nil [1]))) .nil)⟩
def l_row : Def := ⟨PySem.Str.ofString "_law_row", [PySem.Str.ofString "source", PySem.Str.ofString "worths", PySem.Str.ofString "most"], [PySem.Str.ofString "source", PySem.Str.ofString "worths", PySem.Str.ofString "most", PySem.Str.ofString "turn"], [0], (.cons (.ret (.mt .join (.cst (.str [])) (.lc (.idx (.cst (.str [97, 98, 99])) (.call 21 (.mut 0 (.val (.b1 .len (.rd 1)) .nil)))) (.nm 3) (.rng (.call 21 (.mut 0 (.val (.bin .add (.rd 2) (.cst (.int 1))) .nil)))) .nil [3]))) .nil)⟩
def l_wish : Def := ⟨PySem.Str.ofString "_law_wish", [PySem.Str.ofString "source", PySem.Str.ofString "kind"], [PySem.Str.ofString "source", PySem.Str.ofString "kind", PySem.Str.ofString "kinds", PySem.Str.ofString "signs", PySem.Str.ofString "sign", PySem.Str.ofString "none"], [0], (.cons (.asg 2 (.lst (.cons (.cst (.str [108, 111, 110, 103, 101, 115, 116])) (.cons (.cst (.str [115, 104, 111, 114, 116, 101, 115, 116])) (.cons (.cst (.str [110, 117, 109, 98, 101, 114])) (.cons (.cst (.str [103, 114, 101, 97, 116, 101, 115, 116])) (.cons (.cst (.str [115, 109, 97, 108, 108, 101, 115, 116])) .nil))))))) (.cons (.asg 1 (.ite (.cmp .ne (.rd 1) (.cst (.str []))) (.var 1) (.call 22 (.mut 0 (.val (.var 2) .nil))))) (.cons (.asg 3 (.dct (.cons (.cst (.str [108, 111, 110, 103, 101, 115, 116])) (.cons (.lst (.cons (.cst (.str [109, 111, 115, 116])) (.cons (.cst (.str [106, 117, 115, 116])) .nil))) (.cons (.cst (.str [115, 104, 111, 114, 116, 101, 115, 116])) (.cons (.lst (.cons (.cst (.str [108, 101, 97, 115, 116])) (.cons (.cst (.str [106, 117, 115, 116])) .nil))) (.cons (.cst (.str [110, 117, 109, 98, 101, 114])) (.cons (.lst (.cons (.cst (.str [109, 111, 115, 116])) (.cons (.cst (.str [106, 117, 115, 116])) .nil))) .nil)))))))) (.cons (.asg 4 (.call 22 (.mut 0 (.val (.get (.rd 3) (.rd 1) (.lst (.cons (.cst (.str [115, 105, 122, 101])) .nil))) .nil)))) (.cons (.asg 5 (.ite (.cmp .inn (.rd 1) (.tup (.cons (.cst (.str [108, 111, 110, 103, 101, 115, 116])) (.cons (.cst (.str [103, 114, 101, 97, 116, 101, 115, 116])) .nil)))) (.call 22 (.mut 0 (.val (.lst (.cons (.cst .non) (.cons (.cst (.int 0)) (.cons (.neg (.cst (.int 1))) .nil)))) .nil))) (.cst .non))) (.cons (.ret (.tup (.cons (.var 1) (.cons (.var 4) (.cons (.call 22 (.mut 0 (.val (.lst (.cons (.cst (.int 1)) (.cons (.cst (.int 2)) (.cons (.cst (.int 3)) (.cons (.cst (.int 2)) (.cons (.cst (.int 4)) (.cons (.cst (.int 3)) (.cons (.cst (.int 5)) .nil)))))))) .nil))) (.cons (.ite (.cmp .eq (.rd 1) (.cst (.str [110, 117, 109, 98, 101, 114]))) (.cst (.int 0)) (.var 5)) .nil)))))) .nil))))))⟩
def l_best : Def := ⟨PySem.Str.ofString "_law_best", [PySem.Str.ofString "worths", PySem.Str.ofString "wish", PySem.Str.ofString "row"], [PySem.Str.ofString "worths", PySem.Str.ofString "wish", PySem.Str.ofString "row", PySem.Str.ofString "start", PySem.Str.ofString "kind", PySem.Str.ofString "sign", PySem.Str.ofString "number", PySem.Str.ofString "none", PySem.Str.ofString "found", PySem.Str.ofString "amounts", PySem.Str.ofString "end", PySem.Str.ofString "total", PySem.Str.ofString "here", PySem.Str.ofString "letter"], [], (.cons (.asgT (.tp (.cons (.nm 4) (.cons (.nm 5) (.cons (.nm 6) (.cons (.nm 7) .nil))))) (.var 1)) (.cons (.par [8, 9] (.cons (.lst .nil) (.cons (.lst .nil) .nil))) (.cons (.for (.nm 3) (.rng (.b1 .len (.rd 2))) (.cons (.for (.nm 10) (.rng2 (.bin .add (.rd 3) (.cst (.int 1))) (.bin .add (.b1 .len (.rd 2)) (.cst (.int 1)))) (.cons (.asg 11 (.b1 .sum (.lc (.idx (.rd 0) (.mt .index (.cst (.str [97, 98, 99])) (.rd 13))) (.nm 13) (.of (.sli (.rd 2) (.som (.var 3)) (.som (.var 10)))) .nil [13]))) (.cons (.asg 12 (.ite (.cmp .eq (.rd 5) (.cst (.str [115, 105, 122, 101]))) (.bin .sub (.rd 10) (.rd 3)) (.var 11))) (.cons (.ifs (.or (.cons (.cmp .eq (.rd 12) (.rd 6)) (.cons (.and (.cons (.cmp .eq (.rd 5) (.cst (.str [109, 111, 115, 116]))) (.cons (.cmp .lt (.rd 12) (.rd 6)) .nil))) (.cons (.and (.cons (.cmp .eq (.rd 5) (.cst (.str [108, 101, 97, 115, 116]))) (.cons (.cmp .gt (.rd 12) (.rd 6)) .nil))) .nil)))) (.cons (.app 8 (.tup (.cons (.var 3) (.cons (.var 10) .nil)))) (.cons (.app 9 (.ite (.cmp .eq (.rd 5) (.cst (.str [115, 105, 122, 101]))) (.var 11) (.bin .sub (.rd 10) (.rd 3)))) .nil)) .nil) .nil)))) .nil)) (.cons (.ifs (.cmp .eq (.rd 4) (.cst (.str [110, 117, 109, 98, 101, 114]))) (.cons (.ret (.tup (.cons (.b1 .len (.rd 8)) (.cons (.var 8) .nil)))) .nil) .nil) (.cons (.ifs (.cmp .eq (.rd 8) (.lst .nil)) (.cons (.ret (.tup (.cons (.var 7) (.cons (.var 8) .nil)))) .nil) .nil) (.cons (.ret (.tup (.cons (.ite (.cmp .inn (.rd 4) (.tup (.cons (.cst (.str [108, 111, 110, 103, 101, 115, 116])) (.cons (.cst (.str [103, 114, 101, 97, 116, 101, 115, 116])) .nil)))) (.b1 .max (.rd 9)) (.b1 .min (.rd 9))) (.cons (.var 8) .nil)))) .nil))))))⟩
def d_law : Def := ⟨PySem.Str.ofString "law", [PySem.Str.ofString "script"], [PySem.Str.ofString "script", PySem.Str.ofString "k", PySem.Str.ofString "source", PySem.Str.ofString "turn", PySem.Str.ofString "again", PySem.Str.ofString "worths", PySem.Str.ofString "wish", PySem.Str.ofString "row", PySem.Str.ofString "found", PySem.Str.ofString "answer", PySem.Str.ofString "windows"], [], (.cons (.for (.nm 1) (.rng (.bin .add (.cst (.int 1)) (.b2 .min (.b1 .len (.rd 0)) (.cst (.int 15))))) (.cons (.asg 2 (.call 20 (.val (.var 0) (.val (.var 1) .nil)))) (.cons (.for (.nm 3) (.rng (.cst (.int 3))) (.cons (.par [5, 6] (.cons (.call 23 (.mut 2 .nil)) (.cons (.call 25 (.mut 2 (.val (.cst (.str [])) .nil))) .nil))) (.cons (.for (.nm 4) (.rng (.cst (.int 6))) (.cons (.asg 7 (.call 24 (.mut 2 (.val (.var 5) (.val (.cst (.int 16)) .nil))))) (.cons (.asgT (.tp (.cons (.nm 9) (.cons (.nm 10) .nil))) (.call 26 (.val (.var 5) (.val (.var 6) (.val (.var 7) .nil))))) (.cons (.asg 8 (.call 19 (.val (.var 5) (.val (.var 6) (.val (.var 7) .nil))))) (.cons (.ifs (.or (.cons (.cmp .ne (.call 18 (.val (.var 5) (.val (.var 6) (.val (.var 7) .nil)))) (.rd 9)) (.cons (.cmp .ne (.rd 8) (.rd 10)) (.cons (.not (.isi .list (.rd 8))) .nil)))) (.cons (.ret (.cst (.bl false))) .nil) .nil) (.cons (.ifs (.and (.cons (.notN (.rd 9)) (.cons (.isi .bool (.call 18 (.val (.var 5) (.val (.var 6) (.val (.var 7) .nil))))) .nil))) (.cons (.ret (.cst (.bl false))) .nil) .nil) .nil)))))) .nil))) .nil))) (.cons (.ifs (.cmp .ne (.call 18 (.val (.tup (.cons (.cst (.int 1)) (.cons (.cst (.int 2)) (.cons (.cst (.int 3)) .nil)))) (.val (.tup (.cons (.cst (.str [103, 114, 101, 97, 116, 101, 115, 116])) (.cons (.cst (.str [115, 105, 122, 101])) (.cons (.cst (.int 2)) (.cons (.neg (.cst (.int 1))) .nil))))) (.val (.cst (.str [99, 97, 98])) .nil)))) (.cst (.int 4))) (.cons (.ret (.cst (.bl false))) .nil) .nil) (.cons (.ifs (.cmp .ne (.call 19 (.val (.tup (.cons (.cst (.int 3)) .nil)) (.val (.tup (.cons (.cst (.str [110, 117, 109, 98, 101, 114])) (.cons (.cst (.str [109, 111, 115, 116])) (.cons (.cst (.int 2)) (.cons (.cst (.int 0)) .nil))))) (.val (.cst (.str [97, 97])) .nil)))) (.lst .nil)) (.cons (.ret (.cst (.bl false))) .nil) .nil) (.cons (.ret (.isN (.call 18 (.val (.tup (.cons (.cst (.int 1)) .nil)) (.val (.tup (.cons (.cst (.str [115, 109, 97, 108, 108, 101, 115, 116])) (.cons (.cst (.str [115, 105, 122, 101])) (.cons (.cst (.int 3)) (.cons (.cst .non) .nil))))) (.val (.cst (.str [97, 97])) .nil)))))) .nil))))⟩
def glos : List (PySem.Str × T) := [(PySem.Str.ofString "LETTERS", (.str [97, 98, 99])), (PySem.Str.ofString "SIGNS", (.dic false [((.str [108, 111, 110, 103, 101, 115, 116]), (.tup [(.str [109, 111, 115, 116]), (.str [106, 117, 115, 116])])), ((.str [115, 104, 111, 114, 116, 101, 115, 116]), (.tup [(.str [108, 101, 97, 115, 116]), (.str [106, 117, 115, 116])])), ((.str [110, 117, 109, 98, 101, 114]), (.tup [(.str [109, 111, 115, 116]), (.str [106, 117, 115, 116])])), ((.str [103, 114, 101, 97, 116, 101, 115, 116]), (.tup [(.str [115, 105, 122, 101])])), ((.str [115, 109, 97, 108, 108, 101, 115, 116]), (.tup [(.str [115, 105, 122, 101])]))]))]
def prog : Prog := ⟨glos, ([d_is_number, d_is_among, d_is_worths, d_is_row_of, d_is_wish, d_need_worths, d_need_wish, d_need_row, d_worth_of, d_total_of, d_fits, d_note_of] : List Def) ++ ([d_taken_in, d_answered, d_start_answer, d_final_answer, d_answer_for, d_need_three, d_right_answer, d_fitting, l_source, l_draw, l_of, l_worths] : List Def) ++ ([l_row, l_wish, l_best, d_law] : List Def)⟩end ViLaw
namespace ViHead
open ViLaw Vi PySem PySem.Spec PyProof.Rows L2
def top (i : Nat) : Stmt := PySem.Challenge.pw_windowends_k04_right_answers.main.body.getD i (.Pass ⟨0, 0, 0, 0⟩)
def ed_is_number : He.DefD := ⟨("is_number", none), "is_number", "is_number", defArgs (top 8), defBody (top 8), defScope (top 8), [], []⟩
def ed_is_among : He.DefD := ⟨("is_among", none), "is_among", "is_among", defArgs (top 9), defBody (top 9), defScope (top 9), [], []⟩
def ed_is_worths : He.DefD := ⟨("is_worths", none), "is_worths", "is_worths", defArgs (top 10), defBody (top 10), defScope (top 10), [], []⟩
def ed_is_row_of : He.DefD := ⟨("is_row_of", none), "is_row_of", "is_row_of", defArgs (top 11), defBody (top 11), defScope (top 11), [], []⟩
def ed_is_wish : He.DefD := ⟨("is_wish", none), "is_wish", "is_wish", defArgs (top 12), defBody (top 12), defScope (top 12), [], []⟩
def ed_need_worths : He.DefD := ⟨("need_worths", none), "need_worths", "need_worths", defArgs (top 13), defBody (top 13), defScope (top 13), [], []⟩
def ed_need_wish : He.DefD := ⟨("need_wish", none), "need_wish", "need_wish", defArgs (top 14), defBody (top 14), defScope (top 14), [], []⟩
def ed_need_row : He.DefD := ⟨("need_row", none), "need_row", "need_row", defArgs (top 15), defBody (top 15), defScope (top 15), [], []⟩
def ed_worth_of : He.DefD := ⟨("worth_of", none), "worth_of", "worth_of", defArgs (top 17), defBody (top 17), defScope (top 17), [], []⟩
def ed_total_of : He.DefD := ⟨("total_of", none), "total_of", "total_of", defArgs (top 19), defBody (top 19), defScope (top 19), [], []⟩
def ed_fits : He.DefD := ⟨("fits", none), "fits", "fits", defArgs (top 20), defBody (top 20), defScope (top 20), [], []⟩
def ed_note_of : He.DefD := ⟨("note_of", none), "note_of", "note_of", defArgs (top 21), defBody (top 21), defScope (top 21), [], []⟩
def ed_taken_in : He.DefD := ⟨("taken_in", none), "taken_in", "taken_in", defArgs (top 22), defBody (top 22), defScope (top 22), [], []⟩
def ed_answered : He.DefD := ⟨("answered", none), "answered", "answered", defArgs (top 23), defBody (top 23), defScope (top 23), [], []⟩
def ed_start_answer : He.DefD := ⟨("start_answer", none), "start_answer", "start_answer", defArgs (top 24), defBody (top 24), defScope (top 24), [], []⟩
def ed_final_answer : He.DefD := ⟨("final_answer", none), "final_answer", "final_answer", defArgs (top 25), defBody (top 25), defScope (top 25), [], []⟩
def ed_answer_for : He.DefD := ⟨("answer_for", none), "answer_for", "answer_for", defArgs (top 26), defBody (top 26), defScope (top 26), [], []⟩
def ed_need_three : He.DefD := ⟨("need_three", none), "need_three", "need_three", defArgs (top 27), defBody (top 27), defScope (top 27), [], []⟩
def ed_right_answer : He.DefD := ⟨("right_answer", none), "right_answer", "right_answer", defArgs (top 28), defBody (top 28), defScope (top 28), [], []⟩
def ed_fitting : He.DefD := ⟨("fitting", none), "fitting", "fitting", defArgs (top 29), defBody (top 29), defScope (top 29), [], []⟩
def el_source : He.DefD := ⟨("_law_source", none), "_law_source", "_law_source", defArgs (top 31), defBody (top 31), defScope (top 31), [], []⟩
def el_draw : He.DefD := ⟨("_law_draw", none), "_law_draw", "_law_draw", defArgs (top 32), defBody (top 32), defScope (top 32), [], []⟩
def el_of : He.DefD := ⟨("_law_of", none), "_law_of", "_law_of", defArgs (top 33), defBody (top 33), defScope (top 33), [], []⟩
def el_worths : He.DefD := ⟨("_law_worths", none), "_law_worths", "_law_worths", defArgs (top 34), defBody (top 34), defScope (top 34), [], []⟩
def el_row : He.DefD := ⟨("_law_row", none), "_law_row", "_law_row", defArgs (top 35), defBody (top 35), defScope (top 35), [], []⟩
def el_wish : He.DefD := ⟨("_law_wish", none), "_law_wish", "_law_wish", defArgs (top 36), defBody (top 36), defScope (top 36), [], []⟩
def el_best : He.DefD := ⟨("_law_best", none), "_law_best", "_law_best", defArgs (top 37), defBody (top 37), defScope (top 37), [], []⟩
def ed_law : He.DefD := ⟨("law", none), "law", "law", defArgs (top 38), defBody (top 38), defScope (top 38), [], []⟩
def fn : List He.DefD := ([ed_is_number, ed_is_among, ed_is_worths, ed_is_row_of, ed_is_wish, ed_need_worths, ed_need_wish, ed_need_row, ed_worth_of, ed_total_of, ed_fits, ed_note_of] : List He.DefD) ++ ([ed_taken_in, ed_answered, ed_start_answer, ed_final_answer, ed_answer_for, ed_need_three, ed_right_answer, ed_fitting, el_source, el_draw, el_of, el_worths] : List He.DefD) ++ ([el_row, el_wish, el_best, ed_law] : List He.DefD)
theorem cd_is_number : DefC prog d_is_number ed_is_number := ⟨rfl, rfl, rfl, ⟨rfl, rfl, rfl, by decide +kernel, rfl, by decide +kernel, by decide +kernel⟩, by decide +kernel, fun _ _ _ _ _ _ us hl => match us, hl with | [_, _, _], _ => rfl⟩
theorem cd_is_among : DefC prog d_is_among ed_is_among := ⟨rfl, rfl, rfl, ⟨rfl, rfl, rfl, by decide +kernel, rfl, by decide +kernel, by decide +kernel⟩, by decide +kernel, fun _ _ _ _ _ _ us hl => match us, hl with | [_, _], _ => rfl⟩
theorem cd_is_worths : DefC prog d_is_worths ed_is_worths := ⟨rfl, rfl, rfl, ⟨rfl, rfl, rfl, by decide +kernel, rfl, by decide +kernel, by decide +kernel⟩, by decide +kernel, fun _ _ _ _ _ _ us hl => match us, hl with | [_], _ => rfl⟩
theorem cd_is_row_of : DefC prog d_is_row_of ed_is_row_of := ⟨rfl, rfl, rfl, ⟨rfl, rfl, rfl, by decide +kernel, rfl, by decide +kernel, by decide +kernel⟩, by decide +kernel, fun _ _ _ _ _ _ us hl => match us, hl with | [_, _], _ => rfl⟩
theorem cd_is_wish : DefC prog d_is_wish ed_is_wish := ⟨rfl, rfl, rfl, ⟨rfl, rfl, rfl, by decide +kernel, rfl, by decide +kernel, by decide +kernel⟩, by decide +kernel, fun _ _ _ _ _ _ us hl => match us, hl with | [_], _ => rfl⟩
theorem cd_need_worths : DefC prog d_need_worths ed_need_worths := ⟨rfl, rfl, rfl, ⟨rfl, rfl, rfl, by decide +kernel, rfl, by decide +kernel, by decide +kernel⟩, by decide +kernel, fun _ _ _ _ _ _ us hl => match us, hl with | [_], _ => rfl⟩
theorem cd_need_wish : DefC prog d_need_wish ed_need_wish := ⟨rfl, rfl, rfl, ⟨rfl, rfl, rfl, by decide +kernel, rfl, by decide +kernel, by decide +kernel⟩, by decide +kernel, fun _ _ _ _ _ _ us hl => match us, hl with | [_], _ => rfl⟩
theorem cd_need_row : DefC prog d_need_row ed_need_row := ⟨rfl, rfl, rfl, ⟨rfl, rfl, rfl, by decide +kernel, rfl, by decide +kernel, by decide +kernel⟩, by decide +kernel, fun _ _ _ _ _ _ us hl => match us, hl with | [_, _], _ => rfl⟩
theorem cd_worth_of : DefC prog d_worth_of ed_worth_of := ⟨rfl, rfl, rfl, ⟨rfl, rfl, rfl, by decide +kernel, rfl, by decide +kernel, by decide +kernel⟩, by decide +kernel, fun _ _ _ _ _ _ us hl => match us, hl with | [_, _], _ => rfl⟩
theorem cd_total_of : DefC prog d_total_of ed_total_of := ⟨rfl, rfl, rfl, ⟨rfl, rfl, rfl, by decide +kernel, rfl, by decide +kernel, by decide +kernel⟩, by decide +kernel, fun _ _ _ _ _ _ us hl => match us, hl with | [_, _], _ => rfl⟩
theorem cd_fits : DefC prog d_fits ed_fits := ⟨rfl, rfl, rfl, ⟨rfl, rfl, rfl, by decide +kernel, rfl, by decide +kernel, by decide +kernel⟩, by decide +kernel, fun _ _ _ _ _ _ us hl => match us, hl with | [_, _, _], _ => rfl⟩
theorem cd_note_of : DefC prog d_note_of ed_note_of := ⟨rfl, rfl, rfl, ⟨rfl, rfl, rfl, by decide +kernel, rfl, by decide +kernel, by decide +kernel⟩, by decide +kernel, fun _ _ _ _ _ _ us hl => match us, hl with | [_, _, _], _ => rfl⟩
theorem cd_taken_in : DefC prog d_taken_in ed_taken_in := ⟨rfl, rfl, rfl, ⟨rfl, rfl, rfl, by decide +kernel, rfl, by decide +kernel, by decide +kernel⟩, by decide +kernel, fun _ _ _ _ _ _ us hl => match us, hl with | [_, _, _, _], _ => rfl⟩
theorem cd_answered : DefC prog d_answered ed_answered := ⟨rfl, rfl, rfl, ⟨rfl, rfl, rfl, by decide +kernel, rfl, by decide +kernel, by decide +kernel⟩, by decide +kernel, fun _ _ _ _ _ _ us hl => match us, hl with | [_, _, _], _ => rfl⟩
theorem cd_start_answer : DefC prog d_start_answer ed_start_answer := ⟨rfl, rfl, rfl, ⟨rfl, rfl, rfl, by decide +kernel, rfl, by decide +kernel, by decide +kernel⟩, by decide +kernel, fun _ _ _ _ _ _ us hl => match us, hl with | [_], _ => rfl⟩
theorem cd_final_answer : DefC prog d_final_answer ed_final_answer := ⟨rfl, rfl, rfl, ⟨rfl, rfl, rfl, by decide +kernel, rfl, by decide +kernel, by decide +kernel⟩, by decide +kernel, fun _ _ _ _ _ _ us hl => match us, hl with | [_, _], _ => rfl⟩
theorem cd_answer_for : DefC prog d_answer_for ed_answer_for := ⟨rfl, rfl, rfl, ⟨rfl, rfl, rfl, by decide +kernel, rfl, by decide +kernel, by decide +kernel⟩, by decide +kernel, fun _ _ _ _ _ _ us hl => match us, hl with | [_, _, _], _ => rfl⟩
theorem cd_need_three : DefC prog d_need_three ed_need_three := ⟨rfl, rfl, rfl, ⟨rfl, rfl, rfl, by decide +kernel, rfl, by decide +kernel, by decide +kernel⟩, by decide +kernel, fun _ _ _ _ _ _ us hl => match us, hl with | [_, _, _], _ => rfl⟩
theorem cd_right_answer : DefC prog d_right_answer ed_right_answer := ⟨rfl, rfl, rfl, ⟨rfl, rfl, rfl, by decide +kernel, rfl, by decide +kernel, by decide +kernel⟩, by decide +kernel, fun _ _ _ _ _ _ us hl => match us, hl with | [_, _, _], _ => rfl⟩
theorem cd_fitting : DefC prog d_fitting ed_fitting := ⟨rfl, rfl, rfl, ⟨rfl, rfl, rfl, by decide +kernel, rfl, by decide +kernel, by decide +kernel⟩, by decide +kernel, fun _ _ _ _ _ _ us hl => match us, hl with | [_, _, _], _ => rfl⟩
theorem cl_source : DefC prog l_source el_source := ⟨rfl, rfl, rfl, ⟨rfl, rfl, rfl, by decide +kernel, rfl, by decide +kernel, by decide +kernel⟩, by decide +kernel, fun _ _ _ _ _ _ us hl => match us, hl with | [_, _], _ => rfl⟩
theorem cl_draw : DefC prog l_draw el_draw := ⟨rfl, rfl, rfl, ⟨rfl, rfl, rfl, by decide +kernel, rfl, by decide +kernel, by decide +kernel⟩, by decide +kernel, fun _ _ _ _ _ _ us hl => match us, hl with | [_, _], _ => rfl⟩
theorem cl_of : DefC prog l_of el_of := ⟨rfl, rfl, rfl, ⟨rfl, rfl, rfl, by decide +kernel, rfl, by decide +kernel, by decide +kernel⟩, by decide +kernel, fun _ _ _ _ _ _ us hl => match us, hl with | [_, _], _ => rfl⟩
theorem cl_worths : DefC prog l_worths el_worths := ⟨rfl, rfl, rfl, ⟨rfl, rfl, rfl, by decide +kernel, rfl, by decide +kernel, by decide +kernel⟩, by decide +kernel, fun _ _ _ _ _ _ us hl => match us, hl with | [_], _ => rfl⟩
theorem cl_row : DefC prog l_row el_row := ⟨rfl, rfl, rfl, ⟨rfl, rfl, rfl, by decide +kernel, rfl, by decide +kernel, by decide +kernel⟩, by decide +kernel, fun _ _ _ _ _ _ us hl => match us, hl with | [_, _, _], _ => rfl⟩
theorem cl_wish : DefC prog l_wish el_wish := ⟨rfl, rfl, rfl, ⟨rfl, rfl, rfl, by decide +kernel, rfl, by decide +kernel, by decide +kernel⟩, by decide +kernel, fun _ _ _ _ _ _ us hl => match us, hl with | [_, _], _ => rfl⟩
theorem cl_best : DefC prog l_best el_best := ⟨rfl, rfl, rfl, ⟨rfl, rfl, rfl, by decide +kernel, rfl, by decide +kernel, by decide +kernel⟩, by decide +kernel, fun _ _ _ _ _ _ us hl => match us, hl with | [_, _, _], _ => rfl⟩
theorem cd_law : DefC prog d_law ed_law := ⟨rfl, rfl, rfl, ⟨rfl, rfl, rfl, by decide +kernel, rfl, by decide +kernel, by decide +kernel⟩, by decide +kernel, fun _ _ _ _ _ _ us hl => match us, hl with | [_], _ => rfl⟩
theorem cfn : Paired (DefC prog) prog.defs fn := .cons cd_is_number (.cons cd_is_among (.cons cd_is_worths (.cons cd_is_row_of (.cons cd_is_wish (.cons cd_need_worths (.cons cd_need_wish (.cons cd_need_row (.cons cd_worth_of (.cons cd_total_of (.cons cd_fits (.cons cd_note_of (.cons cd_taken_in (.cons cd_answered (.cons cd_start_answer (.cons cd_final_answer (.cons cd_answer_for (.cons cd_need_three (.cons cd_right_answer (.cons cd_fitting (.cons cl_source (.cons cl_draw (.cons cl_of (.cons cl_worths (.cons cl_row (.cons cl_wish (.cons cl_best (.cons cd_law (.nil))))))))))))))))))))))))))))
def loose : List PySem.Str := (["is_number", "is_among", "is_worths", "is_row_of", "is_wish", "need_worths", "need_wish", "need_row", "worth_of", "total_of", "fits", "note_of"] : List PySem.Str) ++ (["taken_in", "answered", "start_answer", "final_answer", "answer_for", "need_three", "right_answer", "fitting", "_law_source", "_law_draw", "_law_of", "_law_worths"] : List PySem.Str) ++ (["_law_row", "_law_wish", "_law_best", "LoopError", "InvalidWorths", "InvalidWish", "InvalidRow", "LETTERS", "SIGNS"] : List PySem.Str)
abbrev RR : PySem.W.OpenRow := PySem.W.OpenLaw.row PySem.Challenge.rw_windowends_k04_right_answers
abbrev hk : PySem.W.Hook := hookV 4 prog fn
def ob (s : PySem.W.SharedT) : AlV := obsVG 4 prog fn (HandSHeadRun.getT s)
theorem ob_eq (s : PySem.W.SharedT) : ob s = hk.obs s.abs := obsVG_eq (HandSHeadRun.getT_eq s)
theorem runF (w : World) : HandSHeadRun.RunEq RR (PySem.W.view RR.prog [38]) hk ob 40000 loose (w.withFollow "special-get-raises" false) := by
  intro os
  kernel_rfl
theorem runT (w : World) : HandSHeadRun.RunEq RR (PySem.W.view RR.prog [38]) hk ob 40000 loose (w.withFollow "special-get-raises" true) := by
  intro os
  kernel_rfl
theorem run (w : World) : HandSHeadRun.RunEq RR (PySem.W.view RR.prog [38]) hk ob 40000 loose w := PySem.W.byRow2 "special-get-raises" (P := fun w => HandSHeadRun.RunEq RR (PySem.W.view RR.prog [38]) hk ob 40000 loose w) runF runT w
end ViHead
namespace ViLaw
end ViLaw

/-! plain: windows of a row -/
namespace Win
def pairs (n : Nat) : List (Nat × Nat) := (List.range n).flatMap fun i => (List.range (n - i)).map fun j => (i, i + 1 + j)
def sub (R : List Nat) (p : Nat × Nat) : List Nat := (R.drop p.1).take (p.2 - p.1)
def lastN (n : Nat) (s : List Nat) : List Nat := s.drop (s.length - n)
def tails (s : List Nat) : List (List Nat) := (List.range s.length).map fun i => s.drop i
/-- all windows looked at, letter by letter -/
def allF (n : Nat) : List Nat → List Nat → List (List Nat)
  | _, [] => []
  | S, c :: R => tails (lastN n (S ++ [c])) ++ allF n (lastN n (S ++ [c])) R
theorem pairs_succ (f : Nat × Nat → Bool) (m : Nat) : (pairs (m + 1)).countP f = (pairs m).countP f + (List.range (m + 1)).countP fun i => f (i, m + 1) := by
  have aux : ∀ k, k ≤ m → ((List.range k).flatMap fun i => (List.range (m + 1 - i)).map fun j => (i, i + 1 + j)).countP f = ((List.range k).flatMap fun i => (List.range (m - i)).map fun j => (i, i + 1 + j)).countP f + (List.range k).countP fun i => f (i, m + 1) := by
    intro k
    induction k with
    | zero => intro _; rfl
    | succ k ih =>
      intro hk
      have ih := ih (by omega)
      rw [List.range_succ, List.flatMap_append, List.flatMap_append, List.countP_append, List.countP_append, List.countP_append, ih]
      have e : m + 1 - k = (m - k) + 1 := by omega
      have e2 : k + 1 + (m - k) = m + 1 := by omega
      simp only [List.flatMap_cons, List.flatMap_nil, List.append_nil]
      rw [e, List.range_succ, List.map_append, List.countP_append]
      simp only [List.map_cons, List.map_nil, e2]
      simp only [List.countP_cons, List.countP_nil]
      omega
  have h := aux m (Nat.le_refl m)
  unfold pairs
  rw [List.range_succ, List.flatMap_append, List.countP_append, h, List.countP_append]
  simp only [List.flatMap_cons, List.flatMap_nil, List.append_nil]
  have e : m + 1 - m = 1 := by omega
  rw [e]
  simp only [List.range_succ, List.range_zero, List.nil_append, List.map_cons, List.map_nil, List.countP_cons, List.countP_nil, Nat.add_zero]
  omega
/-- windows behind m letters, of a row -/
theorem count_all {n : Nat} (g : List Nat → Bool) (hg : ∀ t, g t = true → t.length ≤ n) : ∀ (R P : List Nat), (pairs P.length).countP (fun p => g (sub (P ++ R) p)) + (allF n (lastN n P) R).countP g = (pairs (P ++ R).length).countP fun p => g (sub (P ++ R) p)
  | [], P => by simp [allF]
  | c :: R, P => by
    have ih := count_all g hg R (P ++ [c])
    have e1 : P ++ [c] ++ R = P ++ c :: R := by simp
    rw [e1] at ih
    rw [← ih]
    have e2 : lastN n (lastN n P ++ [c]) = lastN n (P ++ [c]) := by
      unfold lastN
      have : List.drop (P.length - n) P ++ [c] = List.drop (P.length - n) (P ++ [c]) := by
        rw [List.drop_append_of_le_length (by omega)]
      rw [this, List.drop_drop, List.length_drop]
      congr 1
      rw [List.length_append]
      simp only [List.length_cons, List.length_nil]
      omega
    have e3 : (P ++ [c]).length = P.length + 1 := by simp
    rw [e3, pairs_succ]
    show _ + (tails (lastN n (lastN n P ++ [c])) ++ allF n (lastN n (lastN n P ++ [c])) R).countP g = _
    rw [e2, List.countP_append]
    have key : (tails (lastN n (P ++ [c]))).countP g = (List.range (P.length + 1)).countP fun i => g (sub (P ++ c :: R) (i, P.length + 1)) := by
      have hs : ∀ i, i ≤ P.length + 1 → sub (P ++ c :: R) (i, P.length + 1) = (P ++ [c]).drop i := by
        intro i hi
        unfold sub
        show List.take (P.length + 1 - i) (List.drop i (P ++ c :: R)) = _
        rw [← e1, List.drop_append_of_le_length (by rw [e3]; exact hi)]
        rw [List.take_append_of_le_length (by rw [List.length_drop, e3]; omega)]
        apply List.take_of_length_le
        rw [List.length_drop, e3]
        omega
      generalize hQ : P ++ [c] = Q at hs e3 ⊢
      have hd : (List.range (P.length + 1)).countP (fun i => g (sub (P ++ c :: R) (i, P.length + 1))) = (List.range (P.length + 1)).countP (fun i => g (Q.drop i)) := by
        apply List.countP_congr
        intro i hi
        have : i < P.length + 1 := by simpa using hi
        rw [hs i (by omega)]
      rw [hd]
      rw [← e3]
      unfold tails lastN
      rw [List.countP_map]
      have hl : (Q.drop (Q.length - n)).length = Q.length - (Q.length - n) := List.length_drop ..
      rw [hl]
      have h2 : Q.length = (Q.length - n) + (Q.length - (Q.length - n)) := by omega
      have h3 : List.range Q.length = List.range (Q.length - n) ++ (List.range (Q.length - (Q.length - n))).map fun x => (Q.length - n) + x := by
        conv => lhs; rw [h2]
        rw [List.range_add]
      rw [h3, List.countP_append, List.countP_map]
      have z : (List.range (Q.length - n)).countP (fun i => g (Q.drop i)) = 0 := by
        rw [List.countP_eq_zero]
        intro i hi hgt
        have : i < Q.length - n := by simpa using hi
        have := hg _ hgt
        rw [List.length_drop] at this
        omega
      rw [z, Nat.zero_add]
      apply List.countP_congr
      intro i _
      simp only [Function.comp, List.drop_drop]
    rw [key]
    omega
theorem count_allF {n : Nat} (g : List Nat → Bool) (hg : ∀ t, g t = true → t.length ≤ n) (R : List Nat) : (allF n [] R).countP g = (pairs R.length).countP fun p => g (sub R p) := by
  have := count_all g hg R []
  have e : lastN n [] = [] := by simp [lastN]
  rw [e] at this
  simpa [pairs] using this
end Win

/-! plain: greatest and smallest -/
namespace Win
open Vi
def IsMax (l : List Int) : Option Int → Prop
  | none => l = []
  | some m => m ∈ l ∧ ∀ x ∈ l, x ≤ m
def IsMin (l : List Int) : Option Int → Prop
  | none => l = []
  | some m => m ∈ l ∧ ∀ x ∈ l, m ≤ x
theorem IsMax.uniq {l l' : List Int} {r r' : Option Int} (h : IsMax l r) (h' : IsMax l' r') (e : ∀ x, x ∈ l ↔ x ∈ l') : r = r' := by
  cases r with
  | none =>
    cases r' with
    | none => rfl
    | some m' =>
      have h : l = [] := h
      subst h
      exact absurd ((e m').mpr h'.1) (by simp)
  | some m =>
    cases r' with
    | none =>
      have h' : l' = [] := h'
      subst h'
      exact absurd ((e m).mp h.1) (by simp)
    | some m' =>
      have a := h.2 m' ((e m').mpr h'.1)
      have b := h'.2 m ((e m).mp h.1)
      have : m = m' := by omega
      rw [this]
theorem IsMin.uniq' {l l' : List Int} {r r' : Option Int} (h : IsMin l r) (h' : IsMin l' r') (e : ∀ x ∈ l, ∃ y ∈ l', y ≤ x) (e2 : ∀ x ∈ l', ∃ y ∈ l, y ≤ x) : r = r' := by
  cases r with
  | none =>
    cases r' with
    | none => rfl
    | some m' =>
      have h : l = [] := h
      subst h
      obtain ⟨y, hy, _⟩ := e2 m' h'.1
      exact absurd hy (by simp)
  | some m =>
    cases r' with
    | none =>
      have h' : l' = [] := h'
      subst h'
      obtain ⟨y, hy, _⟩ := e m h.1
      exact absurd hy (by simp)
    | some m' =>
      obtain ⟨y, hy, hy2⟩ := e m h.1
      obtain ⟨z, hz, hz2⟩ := e2 m' h'.1
      have a := h.2 z hz
      have b := h'.2 y hy
      have : m = m' := by omega
      rw [this]
theorem isMax_maxI : ∀ l, IsMax l (maxI l)
  | [] => rfl
  | [a] => ⟨by simp, by simp⟩
  | a :: b :: r => by
    have ih := isMax_maxI (b :: r)
    show IsMax (a :: b :: r) ((maxI (b :: r)).map fun c => if a < c then c else a)
    cases q : maxI (b :: r) with
    | none => rw [q] at ih; exact absurd ih (by simp [IsMax])
    | some m =>
      rw [q] at ih
      obtain ⟨h1, h2⟩ := ih
      show _ ∧ _
      by_cases h : a < m
      · simp only [if_pos h]
        refine ⟨List.mem_cons_of_mem _ h1, fun x hx => ?_⟩
        rcases List.mem_cons.mp hx with rfl | hx
        · omega
        · exact h2 x hx
      · simp only [if_neg h]
        refine ⟨List.mem_cons_self, fun x hx => ?_⟩
        rcases List.mem_cons.mp hx with rfl | hx
        · omega
        · have := h2 x hx; omega
theorem isMin_minI : ∀ l, IsMin l (minI l)
  | [] => rfl
  | [a] => ⟨by simp, by simp⟩
  | a :: b :: r => by
    have ih := isMin_minI (b :: r)
    show IsMin (a :: b :: r) ((minI (b :: r)).map fun c => if c < a then c else a)
    cases q : minI (b :: r) with
    | none => rw [q] at ih; exact absurd ih (by simp [IsMin])
    | some m =>
      rw [q] at ih
      obtain ⟨h1, h2⟩ := ih
      show _ ∧ _
      by_cases h : m < a
      · simp only [if_pos h]
        refine ⟨List.mem_cons_of_mem _ h1, fun x hx => ?_⟩
        rcases List.mem_cons.mp hx with rfl | hx
        · omega
        · exact h2 x hx
      · simp only [if_neg h]
        refine ⟨List.mem_cons_self, fun x hx => ?_⟩
        rcases List.mem_cons.mp hx with rfl | hx
        · omega
        · have := h2 x hx; omega
def upM (a : Option Int) (m : Int) : Option Int := match a with
  | none => some m
  | some i => if i < m then some m else some i
def dnM (a : Option Int) (m : Int) : Option Int := match a with
  | none => some m
  | some i => if m < i then some m else some i
theorem isMax_fold : ∀ (l p : List Int) (a : Option Int), IsMax p a → IsMax (p ++ l) (l.foldl upM a)
  | [], p, a, h => by simpa using h
  | m :: l, p, a, h => by
    have : IsMax (p ++ [m]) (upM a m) := by
      cases a with
      | none =>
        have h : p = [] := h
        subst h
        exact ⟨by simp, by simp⟩
      | some i =>
        obtain ⟨h1, h2⟩ := h
        show IsMax (p ++ [m]) (if i < m then some m else some i)
        split
        · refine ⟨by simp, fun x hx => ?_⟩
          rcases List.mem_append.mp hx with hx | hx
          · have := h2 x hx; omega
          · simp at hx; omega
        · refine ⟨by simp [h1], fun x hx => ?_⟩
          rcases List.mem_append.mp hx with hx | hx
          · exact h2 x hx
          · simp at hx; omega
    have := isMax_fold l (p ++ [m]) (upM a m) this
    simpa using this
theorem isMin_fold : ∀ (l p : List Int) (a : Option Int), IsMin p a → IsMin (p ++ l) (l.foldl dnM a)
  | [], p, a, h => by simpa using h
  | m :: l, p, a, h => by
    have : IsMin (p ++ [m]) (dnM a m) := by
      cases a with
      | none =>
        have h : p = [] := h
        subst h
        exact ⟨by simp, by simp⟩
      | some i =>
        obtain ⟨h1, h2⟩ := h
        show IsMin (p ++ [m]) (if m < i then some m else some i)
        split
        · refine ⟨by simp, fun x hx => ?_⟩
          rcases List.mem_append.mp hx with hx | hx
          · have := h2 x hx; omega
          · simp at hx; omega
        · refine ⟨by simp [h1], fun x hx => ?_⟩
          rcases List.mem_append.mp hx with hx | hx
          · exact h2 x hx
          · simp at hx; omega
    have := isMin_fold l (p ++ [m]) (dnM a m) this
    simpa using this
end Win

set_option maxRecDepth 100000
set_option maxHeartbeats 1000000
set_option linter.all false
namespace ViLaw
open Vi
def gl : List T := prog.glos.map Prod.snd
theorem tabs (n f : Nat) (d : Def) (ts : List T) (h : prog.defs[f]? = some d) : prog.tab (n + 1) f ts = d.run (Cfg.mk gl (prog.tab n)) ts := by
  rw [Prog.tab, h]; rfl

def numOk : T → Int → Int → Bool
  | .int i, lo, hi => decide (lo ≤ i) && decide (i ≤ hi)
  | _, _, _ => false
theorem t_is_number (n : Nat) (t : T) (lo hi : Int) (h : isiT .int t ≠ none) : prog.tab (n + 1) 0 [t, .int lo, .int hi] = .ret (.bl (numOk t lo hi)) [none, none, none] := by
  rw [tabs n 0 d_is_number _ rfl]
  cases t with
  | int i =>
    by_cases h1 : lo ≤ i
    · by_cases h2 : i ≤ hi <;> simp [Def.run, exs_nil, exs_cons, ex_asg, ex_asgT, ex_par, ex_exp, ex_ifs, ex_ret, ex_retv, ex_put, ex_app, ev_var, ev_rd, ev_cst, ev_glo, ev_tup, ev_lst, ev_dct, ev_bin, ev_neg, ev_cmp, ev_chn, ev_isN, ev_notN, ev_and, ev_or, ev_not, ev_ite, ev_idx, ev_sli, ev_call, ev_b1, ev_b2, ev_mt, ev_isi, putM1, isOwnL, kept, setL, appM, parM, evAnd, evOr, evs, evT, eva, evi, evo, evk, callM, argsIn, muts, nodupN, outsIn, strong, isRd, opd, fin1, fin2, fin3, need, Vi.R.bind, Vi.O.get, isiT, tru, cmpT, idxT, atx, ixn, outsOf, getVar, rdVar, setVar, Vi.own, fz, testM, b1T, b2T, mtT, binT, negT, isNf, isNonT, inT, flat, eqb, asg, asgs, dat, dats, eqbs, List.range_succ, d_is_number, numOk, h1, h2]
    · simp [Def.run, exs_nil, exs_cons, ex_asg, ex_asgT, ex_par, ex_exp, ex_ifs, ex_ret, ex_retv, ex_put, ex_app, ev_var, ev_rd, ev_cst, ev_glo, ev_tup, ev_lst, ev_dct, ev_bin, ev_neg, ev_cmp, ev_chn, ev_isN, ev_notN, ev_and, ev_or, ev_not, ev_ite, ev_idx, ev_sli, ev_call, ev_b1, ev_b2, ev_mt, ev_isi, putM1, isOwnL, kept, setL, appM, parM, evAnd, evOr, evs, evT, eva, evi, evo, evk, callM, argsIn, muts, nodupN, outsIn, strong, isRd, opd, fin1, fin2, fin3, need, Vi.R.bind, Vi.O.get, isiT, tru, cmpT, idxT, atx, ixn, outsOf, getVar, rdVar, setVar, Vi.own, fz, testM, b1T, b2T, mtT, binT, negT, isNf, isNonT, inT, flat, eqb, asg, asgs, dat, dats, eqbs, List.range_succ, d_is_number, numOk, h1]
  | und => exact absurd rfl h
  | dic _ _ => exact absurd rfl h
  | _ => rfl
/-! ### letters, sums -/
def lets : List Nat := [97, 98, 99]
def glo0 : T := .str lets
theorem glos0 : gl[0]? = some glo0 := rfl
def val (W : List Int) (c : Nat) : Int := W.getD (c - 97) 0
def LOk (W : List Int) (c : Nat) : Prop := 97 ≤ c ∧ c - 97 < W.length ∧ c < 100
def tupI (W : List Int) : T := .tup (W.map .int)
theorem idx_let {c : Nat} (h : 97 ≤ c ∧ c < 100) : idxOf (· == c) lets = some (c - 97) := by
  have : c = 97 ∨ c = 98 ∨ c = 99 := by omega
  rcases this with rfl | rfl | rfl <;> rfl
theorem t_worth_of (n : Nat) (W : List Int) (c : Nat) (h : LOk W c) : prog.tab (n + 1) 8 [tupI W, .str [c]] = .ret (.int (val W c)) [none, none] := by
  rw [tabs n 8 d_worth_of _ rfl]
  have e := idx_let ⟨h.1, h.2.2⟩
  have e2 : W[c - 97]? = some (val W c) := by
    rw [List.getElem?_eq_getElem h.2.1]
    simp [val, List.getD_eq_getElem?_getD, List.getElem?_eq_getElem h.2.1]
  have e3 : ((c - 97 : Nat) : Int) < (W.length : Int) := by have := h.2.1; omega
  simp [Def.run, exs_nil, exs_cons, ex_asg, ex_asgT, ex_par, ex_exp, ex_ifs, ex_ret, ex_retv, ex_put, ex_app, ev_var, ev_rd, ev_cst, ev_glo, ev_tup, ev_lst, ev_dct, ev_bin, ev_neg, ev_cmp, ev_chn, ev_isN, ev_notN, ev_and, ev_or, ev_not, ev_ite, ev_idx, ev_sli, ev_call, ev_b1, ev_b2, ev_mt, ev_isi, putM1, isOwnL, kept, setL, appM, parM, evAnd, evOr, evs, evT, eva, evi, evo, evk, callM, argsIn, muts, nodupN, outsIn, strong, isRd, opd, fin1, fin2, fin3, need, Vi.R.bind, Vi.O.get, isiT, tru, cmpT, idxT, atx, ixn, outsOf, getVar, rdVar, setVar, Vi.own, fz, testM, b1T, b2T, mtT, binT, negT, isNf, isNonT, inT, flat, eqb, asg, asgs, dat, dats, eqbs, List.range_succ, d_worth_of, tupI, e, glos0, glo0, e2, e3, Int.toNat_natCast]
def ROk (W : List Int) (R : List Nat) : Prop := ∀ c ∈ R, LOk W c
def total (W : List Int) (R : List Nat) : Int := (R.map (val W)).sum
theorem ints_map (l : List Int) : ints? (l.map .int) = some l := by
  induction l with
  | nil => rfl
  | cons a l ih => simp [ints?, ih]
theorem bls_map (l : List Bool) : bls? (l.map .bl) = some l := by
  induction l with
  | nil => rfl
  | cons a l ih => simp [bls?, ih]
/-- a list comprehension without tests, that leaves all as it was -/
theorem ev_lc {c : Cfg} {elt : E} {tg : Tg} {it : It} {own : List Nat} {e : Env} {l : List T} {g : T → T} (hi : evi c it e = .ok l e) (hp : plainAt e own = true) (ht : tgIn tg own = true) (hl : l.length ≤ line)
    (hb : ∀ x ∈ l, ∃ e1, ((asg tg x (wipe e own)).bind fun _ e => (strong (isRd elt) (ev c elt) e)) = .ok (g x) e1 ∧ wipe e1 own = wipe e own) : ev c (.lc elt tg it .nil own) e = .ok (.lst true (l.map fun x => fz (g x))) e := by
  obtain ⟨e1, h1, h2⟩ := turns_fm (own := own) (body := lcBody c tg .nil elt) (g := fun x => some (fz (g x))) l [] e (fun x hx => by
    obtain ⟨e1, h1, h2⟩ := hb x hx
    refine ⟨e1, ?_, h2⟩
    unfold lcBody
    cases q : asg tg x (wipe e own) with
    | no => rw [q] at h1; cases h1
    | ex k d e => rw [q] at h1; cases h1
    | ok u e2 =>
      rw [q] at h1
      show ((evT c .nil e2).bind fun b e => if b then (strong (isRd elt) (ev c elt) e).bind fun t e => .ok (some (fz t)) e else .ok none e) = _
      show ((strong (isRd elt) (ev c elt) e2).bind fun t e => R.ok (some (fz t)) e) = _
      have h1 : strong (isRd elt) (ev c elt) e2 = .ok (g x) e1 := h1
      rw [h1]; rfl) (by simpa using hl)
  show ((evi c it e).bind fun l e0 => if (plainAt e0 own && tgIn tg own) = true then noEx ((turns own (lcBody c tg .nil elt) l [] e0).bind fun acc e => R.ok (T.lst true acc) (back e0 e own)) else .no) = _
  rw [hi]
  show (if (plainAt e own && tgIn tg own) = true then noEx ((turns own (lcBody c tg .nil elt) l [] e).bind fun acc e' => R.ok (T.lst true acc) (back e e' own)) else .no) = _
  rw [hp, ht, h1]
  show R.ok (T.lst true _) (back e e1 own) = _
  rw [back_of h2]
  simp
theorem t_total_of (n : Nat) (W : List Int) (R : List Nat) (h : ROk W R) (hl : R.length ≤ 1000) : prog.tab (n + 2) 9 [tupI W, .str R] = .ret (.int (total W R)) [none, none] := by
  rw [tabs (n + 1) 9 d_total_of _ rfl]
  have key := ev_lc (c := Cfg.mk gl (prog.tab (n + 1))) (elt := .call 8 (.val (.var 0) (.val (.var 2) .nil))) (tg := .nm 2) (it := .of (.var 1)) (own := [2]) (e := [some (tupI W), some (.str R), none]) (l := R.map fun c => .str [c])
    (g := fun x => match x with | .str [c] => .int (val W c) | t => t) rfl rfl rfl (by rw [List.length_map]; show _ ≤ 16777216; omega) (fun x hx => by
      obtain ⟨c, hc, rfl⟩ := List.mem_map.mp hx
      refine ⟨[some (tupI W), some (.str R), some (.str [c])], ?_, rfl⟩
      have := t_worth_of n W c (h c hc)
      unfold tupI at this ⊢
      simp [Def.run, exs_nil, exs_cons, ex_asg, ex_asgT, ex_par, ex_exp, ex_ifs, ex_ret, ex_retv, ex_put, ex_app, ev_var, ev_rd, ev_cst, ev_glo, ev_tup, ev_lst, ev_dct, ev_bin, ev_neg, ev_cmp, ev_chn, ev_isN, ev_notN, ev_and, ev_or, ev_not, ev_ite, ev_idx, ev_sli, ev_call, ev_b1, ev_b2, ev_mt, ev_isi, putM1, isOwnL, kept, setL, appM, parM, evAnd, evOr, evs, evT, eva, evi, evo, evk, callM, argsIn, muts, nodupN, outsIn, strong, isRd, opd, fin1, fin2, fin3, need, Vi.R.bind, Vi.O.get, isiT, tru, cmpT, idxT, atx, ixn, outsOf, getVar, rdVar, setVar, Vi.own, fz, testM, b1T, b2T, mtT, binT, negT, isNf, isNonT, inT, flat, eqb, asg, asgs, dat, dats, eqbs, List.range_succ, wipe, this])
  have e : ((R.map fun c => T.str [c]).map fun x => fz (match x with | .str [c] => .int (val W c) | t => t)) = (R.map (val W)).map .int := by
    rw [List.map_map, List.map_map]; rfl
  rw [e] at key
  have e2 : ints? (R.map (T.int ∘ val W)) = some (R.map (val W)) := by
    have := ints_map (R.map (val W))
    rwa [List.map_map] at this
  unfold tupI at key ⊢
  simp [Def.run, exs_nil, exs_cons, ex_asg, ex_asgT, ex_par, ex_exp, ex_ifs, ex_ret, ex_retv, ex_put, ex_app, ev_var, ev_rd, ev_cst, ev_glo, ev_tup, ev_lst, ev_dct, ev_bin, ev_neg, ev_cmp, ev_chn, ev_isN, ev_notN, ev_and, ev_or, ev_not, ev_ite, ev_idx, ev_sli, ev_call, ev_b1, ev_b2, ev_mt, ev_isi, putM1, isOwnL, kept, setL, appM, parM, evAnd, evOr, evs, evT, eva, evi, evo, evk, callM, argsIn, muts, nodupN, outsIn, strong, isRd, opd, fin1, fin2, fin3, need, Vi.R.bind, Vi.O.get, isiT, tru, cmpT, idxT, atx, ixn, outsOf, getVar, rdVar, setVar, Vi.own, fz, testM, b1T, b2T, mtT, binT, negT, isNf, isNonT, inT, flat, eqb, asg, asgs, dat, dats, eqbs, List.range_succ, d_total_of, key, total, e2]
/-! ### wishes -/
def kLong : List Nat := [108, 111, 110, 103, 101, 115, 116]
def kShort : List Nat := [115, 104, 111, 114, 116, 101, 115, 116]
def kNum : List Nat := [110, 117, 109, 98, 101, 114]
def kGreat : List Nat := [103, 114, 101, 97, 116, 101, 115, 116]
def kSmall : List Nat := [115, 109, 97, 108, 108, 101, 115, 116]
def sMost : List Nat := [109, 111, 115, 116]
def sLeast : List Nat := [108, 101, 97, 115, 116]
def sJust : List Nat := [106, 117, 115, 116]
def sSize : List Nat := [115, 105, 122, 101]
def wcount : List Nat := [99, 111, 117, 110, 116]
def wishT (k s : List Nat) (num : Int) (no : T) : T := .tup [.str k, .str s, .int num, no]
def fitB (W : List Int) (s : List Nat) (num : Int) (R : List Nat) : Bool :=
  if s = sSize then decide ((R.length : Int) = num) else if s = sMost then decide (total W R ≤ num) else if s = sLeast then decide (num ≤ total W R) else decide (total W R = num)
theorem t_fits (n : Nat) (W : List Int) (R : List Nat) (k s : List Nat) (num : Int) (no : T) (h : ROk W R) (hl : R.length ≤ 1000) : prog.tab (n + 3) 10 [tupI W, wishT k s num no, .str R] = .ret (.bl (fitB W s num R)) [none, none, none] := by
  rw [tabs (n + 2) 10 d_fits _ rfl]
  have key := t_total_of n W R h hl
  have hl2 : R.length ≤ 16777216 := by omega
  unfold tupI at key ⊢
  by_cases h1 : s = sSize
  · subst h1
    by_cases h5 : (R.length : Int) = num
    · simp [Def.run, exs_nil, exs_cons, ex_asg, ex_asgT, ex_par, ex_exp, ex_ifs, ex_ret, ex_retv, ex_put, ex_app, ev_var, ev_rd, ev_cst, ev_glo, ev_tup, ev_lst, ev_dct, ev_bin, ev_neg, ev_cmp, ev_chn, ev_isN, ev_notN, ev_and, ev_or, ev_not, ev_ite, ev_idx, ev_sli, ev_call, ev_b1, ev_b2, ev_mt, ev_isi, putM1, isOwnL, kept, setL, appM, parM, evAnd, evOr, evs, evT, eva, evi, evo, evk, callM, argsIn, muts, nodupN, outsIn, strong, isRd, opd, fin1, fin2, fin3, need, Vi.R.bind, Vi.O.get, isiT, tru, cmpT, idxT, atx, ixn, outsOf, getVar, rdVar, setVar, Vi.own, fz, testM, b1T, b2T, mtT, binT, negT, isNf, isNonT, inT, flat, eqb, asg, asgs, dat, dats, eqbs, List.range_succ, d_fits, wishT, fitB, sSize, hl2, h5]
    · simp [Def.run, exs_nil, exs_cons, ex_asg, ex_asgT, ex_par, ex_exp, ex_ifs, ex_ret, ex_retv, ex_put, ex_app, ev_var, ev_rd, ev_cst, ev_glo, ev_tup, ev_lst, ev_dct, ev_bin, ev_neg, ev_cmp, ev_chn, ev_isN, ev_notN, ev_and, ev_or, ev_not, ev_ite, ev_idx, ev_sli, ev_call, ev_b1, ev_b2, ev_mt, ev_isi, putM1, isOwnL, kept, setL, appM, parM, evAnd, evOr, evs, evT, eva, evi, evo, evk, callM, argsIn, muts, nodupN, outsIn, strong, isRd, opd, fin1, fin2, fin3, need, Vi.R.bind, Vi.O.get, isiT, tru, cmpT, idxT, atx, ixn, outsOf, getVar, rdVar, setVar, Vi.own, fz, testM, b1T, b2T, mtT, binT, negT, isNf, isNonT, inT, flat, eqb, asg, asgs, dat, dats, eqbs, List.range_succ, d_fits, wishT, fitB, sSize, hl2, h5]
  · by_cases h2 : s = sMost
    · subst h2
      by_cases h5 : total W R ≤ num <;> simp [Def.run, exs_nil, exs_cons, ex_asg, ex_asgT, ex_par, ex_exp, ex_ifs, ex_ret, ex_retv, ex_put, ex_app, ev_var, ev_rd, ev_cst, ev_glo, ev_tup, ev_lst, ev_dct, ev_bin, ev_neg, ev_cmp, ev_chn, ev_isN, ev_notN, ev_and, ev_or, ev_not, ev_ite, ev_idx, ev_sli, ev_call, ev_b1, ev_b2, ev_mt, ev_isi, putM1, isOwnL, kept, setL, appM, parM, evAnd, evOr, evs, evT, eva, evi, evo, evk, callM, argsIn, muts, nodupN, outsIn, strong, isRd, opd, fin1, fin2, fin3, need, Vi.R.bind, Vi.O.get, isiT, tru, cmpT, idxT, atx, ixn, outsOf, getVar, rdVar, setVar, Vi.own, fz, testM, b1T, b2T, mtT, binT, negT, isNf, isNonT, inT, flat, eqb, asg, asgs, dat, dats, eqbs, List.range_succ, d_fits, wishT, fitB, sSize, sMost, key, h5]
    · by_cases h3 : s = sLeast
      · subst h3
        by_cases h5 : num ≤ total W R <;> simp [Def.run, exs_nil, exs_cons, ex_asg, ex_asgT, ex_par, ex_exp, ex_ifs, ex_ret, ex_retv, ex_put, ex_app, ev_var, ev_rd, ev_cst, ev_glo, ev_tup, ev_lst, ev_dct, ev_bin, ev_neg, ev_cmp, ev_chn, ev_isN, ev_notN, ev_and, ev_or, ev_not, ev_ite, ev_idx, ev_sli, ev_call, ev_b1, ev_b2, ev_mt, ev_isi, putM1, isOwnL, kept, setL, appM, parM, evAnd, evOr, evs, evT, eva, evi, evo, evk, callM, argsIn, muts, nodupN, outsIn, strong, isRd, opd, fin1, fin2, fin3, need, Vi.R.bind, Vi.O.get, isiT, tru, cmpT, idxT, atx, ixn, outsOf, getVar, rdVar, setVar, Vi.own, fz, testM, b1T, b2T, mtT, binT, negT, isNf, isNonT, inT, flat, eqb, asg, asgs, dat, dats, eqbs, List.range_succ, d_fits, wishT, fitB, sSize, sMost, sLeast, key, h5]
      · unfold sSize at h1
        unfold sMost at h2
        unfold sLeast at h3
        have b3 : (s == [108, 101, 97, 115, 116]) = false := by simp [h3]
        by_cases h5 : total W R = num <;> simp [Def.run, exs_nil, exs_cons, ex_asg, ex_asgT, ex_par, ex_exp, ex_ifs, ex_ret, ex_retv, ex_put, ex_app, ev_var, ev_rd, ev_cst, ev_glo, ev_tup, ev_lst, ev_dct, ev_bin, ev_neg, ev_cmp, ev_chn, ev_isN, ev_notN, ev_and, ev_or, ev_not, ev_ite, ev_idx, ev_sli, ev_call, ev_b1, ev_b2, ev_mt, ev_isi, putM1, isOwnL, kept, setL, appM, parM, evAnd, evOr, evs, evT, eva, evi, evo, evk, callM, argsIn, muts, nodupN, outsIn, strong, isRd, opd, fin1, fin2, fin3, need, Vi.R.bind, Vi.O.get, isiT, tru, cmpT, idxT, atx, ixn, outsOf, getVar, rdVar, setVar, Vi.own, fz, testM, b1T, b2T, mtT, binT, negT, isNf, isNonT, inT, flat, eqb, asg, asgs, dat, dats, eqbs, List.range_succ, d_fits, wishT, fitB, sSize, sMost, sLeast, key, h1, h2, h3, h5, b3]
def noteT (W : List Int) (k : List Nat) (R : List Nat) : T :=
  if k = kGreat then .tup [.str sMost, .int (total W R)] else if k = kSmall then .tup [.str sLeast, .int (total W R)] else if k = kNum then .tup [.str wcount, .int 1] else if k = kLong then .tup [.str sMost, .int R.length] else .tup [.str sLeast, .int R.length]
theorem t_note_of (n : Nat) (W : List Int) (R : List Nat) (k s : List Nat) (num : Int) (no : T) (h : ROk W R) (hl : R.length ≤ 1000) : prog.tab (n + 3) 11 [tupI W, wishT k s num no, .str R] = .ret (noteT W k R) [none, none, none] := by
  rw [tabs (n + 2) 11 d_note_of _ rfl]
  have key := t_total_of n W R h hl
  have hl2 : R.length ≤ 16777216 := by omega
  unfold tupI at key ⊢
  by_cases h1 : k = kGreat
  · subst h1
    simp [Def.run, exs_nil, exs_cons, ex_asg, ex_asgT, ex_par, ex_exp, ex_ifs, ex_ret, ex_retv, ex_put, ex_app, ev_var, ev_rd, ev_cst, ev_glo, ev_tup, ev_lst, ev_dct, ev_bin, ev_neg, ev_cmp, ev_chn, ev_isN, ev_notN, ev_and, ev_or, ev_not, ev_ite, ev_idx, ev_sli, ev_call, ev_b1, ev_b2, ev_mt, ev_isi, putM1, isOwnL, kept, setL, appM, parM, evAnd, evOr, evs, evT, eva, evi, evo, evk, callM, argsIn, muts, nodupN, outsIn, strong, isRd, opd, fin1, fin2, fin3, need, Vi.R.bind, Vi.O.get, isiT, tru, cmpT, idxT, atx, ixn, outsOf, getVar, rdVar, setVar, Vi.own, fz, testM, b1T, b2T, mtT, binT, negT, isNf, isNonT, inT, flat, eqb, asg, asgs, dat, dats, eqbs, List.range_succ, d_note_of, wishT, noteT, kGreat, sMost, key]
  · by_cases h2 : k = kSmall
    · subst h2
      simp [Def.run, exs_nil, exs_cons, ex_asg, ex_asgT, ex_par, ex_exp, ex_ifs, ex_ret, ex_retv, ex_put, ex_app, ev_var, ev_rd, ev_cst, ev_glo, ev_tup, ev_lst, ev_dct, ev_bin, ev_neg, ev_cmp, ev_chn, ev_isN, ev_notN, ev_and, ev_or, ev_not, ev_ite, ev_idx, ev_sli, ev_call, ev_b1, ev_b2, ev_mt, ev_isi, putM1, isOwnL, kept, setL, appM, parM, evAnd, evOr, evs, evT, eva, evi, evo, evk, callM, argsIn, muts, nodupN, outsIn, strong, isRd, opd, fin1, fin2, fin3, need, Vi.R.bind, Vi.O.get, isiT, tru, cmpT, idxT, atx, ixn, outsOf, getVar, rdVar, setVar, Vi.own, fz, testM, b1T, b2T, mtT, binT, negT, isNf, isNonT, inT, flat, eqb, asg, asgs, dat, dats, eqbs, List.range_succ, d_note_of, wishT, noteT, kGreat, kSmall, sLeast, key]
    · by_cases h3 : k = kNum
      · subst h3
        simp [Def.run, exs_nil, exs_cons, ex_asg, ex_asgT, ex_par, ex_exp, ex_ifs, ex_ret, ex_retv, ex_put, ex_app, ev_var, ev_rd, ev_cst, ev_glo, ev_tup, ev_lst, ev_dct, ev_bin, ev_neg, ev_cmp, ev_chn, ev_isN, ev_notN, ev_and, ev_or, ev_not, ev_ite, ev_idx, ev_sli, ev_call, ev_b1, ev_b2, ev_mt, ev_isi, putM1, isOwnL, kept, setL, appM, parM, evAnd, evOr, evs, evT, eva, evi, evo, evk, callM, argsIn, muts, nodupN, outsIn, strong, isRd, opd, fin1, fin2, fin3, need, Vi.R.bind, Vi.O.get, isiT, tru, cmpT, idxT, atx, ixn, outsOf, getVar, rdVar, setVar, Vi.own, fz, testM, b1T, b2T, mtT, binT, negT, isNf, isNonT, inT, flat, eqb, asg, asgs, dat, dats, eqbs, List.range_succ, d_note_of, wishT, noteT, kGreat, kSmall, kNum, wcount]
      · by_cases h4 : k = kLong
        · subst h4
          simp [Def.run, exs_nil, exs_cons, ex_asg, ex_asgT, ex_par, ex_exp, ex_ifs, ex_ret, ex_retv, ex_put, ex_app, ev_var, ev_rd, ev_cst, ev_glo, ev_tup, ev_lst, ev_dct, ev_bin, ev_neg, ev_cmp, ev_chn, ev_isN, ev_notN, ev_and, ev_or, ev_not, ev_ite, ev_idx, ev_sli, ev_call, ev_b1, ev_b2, ev_mt, ev_isi, putM1, isOwnL, kept, setL, appM, parM, evAnd, evOr, evs, evT, eva, evi, evo, evk, callM, argsIn, muts, nodupN, outsIn, strong, isRd, opd, fin1, fin2, fin3, need, Vi.R.bind, Vi.O.get, isiT, tru, cmpT, idxT, atx, ixn, outsOf, getVar, rdVar, setVar, Vi.own, fz, testM, b1T, b2T, mtT, binT, negT, isNf, isNonT, inT, flat, eqb, asg, asgs, dat, dats, eqbs, List.range_succ, d_note_of, wishT, noteT, kGreat, kSmall, kNum, kLong, sMost, hl2]
        · unfold kGreat at h1
          unfold kSmall at h2
          unfold kNum at h3
          unfold kLong at h4
          have g1 : ¬ [103, 114, 101, 97, 116, 101, 115, 116] = k := fun z => h1 z.symm
          have g2 : ¬ [115, 109, 97, 108, 108, 101, 115, 116] = k := fun z => h2 z.symm
          have b1 : ([103, 114, 101, 97, 116, 101, 115, 116] == k) = false := by simp [g1]
          have b2 : ([115, 109, 97, 108, 108, 101, 115, 116] == k) = false := by simp [g2]
          have b4 : (k == [108, 111, 110, 103, 101, 115, 116]) = false := by simp [h4]
          simp [Def.run, exs_nil, exs_cons, ex_asg, ex_asgT, ex_par, ex_exp, ex_ifs, ex_ret, ex_retv, ex_put, ex_app, ev_var, ev_rd, ev_cst, ev_glo, ev_tup, ev_lst, ev_dct, ev_bin, ev_neg, ev_cmp, ev_chn, ev_isN, ev_notN, ev_and, ev_or, ev_not, ev_ite, ev_idx, ev_sli, ev_call, ev_b1, ev_b2, ev_mt, ev_isi, putM1, isOwnL, kept, setL, appM, parM, evAnd, evOr, evs, evT, eva, evi, evo, evk, callM, argsIn, muts, nodupN, outsIn, strong, isRd, opd, fin1, fin2, fin3, need, Vi.R.bind, Vi.O.get, isiT, tru, cmpT, idxT, atx, ixn, outsOf, getVar, rdVar, setVar, Vi.own, fz, testM, b1T, b2T, mtT, binT, negT, isNf, isNonT, inT, flat, eqb, asg, asgs, dat, dats, eqbs, List.range_succ, d_note_of, wishT, noteT, kGreat, kSmall, kNum, kLong, sLeast, h1, h2, h3, h4, g1, g2, hl2, b1, b2, b4]
end ViLaw

set_option maxRecDepth 100000
set_option maxHeartbeats 1000000
set_option linter.all false
namespace ViLaw
open Vi
/-! ### one letter more -/
def lastN (n : Nat) (s : List Nat) : List Nat := s.drop (s.length - n)
theorem cut_last (s : List Nat) (num : Int) (h : 0 < num) : cut s (some (-num)) none = lastN num.toNat s := by
  unfold cut lastN six
  have e : (if -num < 0 then max (-num + (s.length : Int)) 0 else min (-num) (s.length : Int)).toNat = s.length - num.toNat := by
    rw [if_pos (by omega)]; omega
  simp only [e]
  rw [List.take_of_length_le]
  rw [List.length_drop]
  omega
theorem cut_from (s : List Nat) (i : Nat) (h : i ≤ s.length) : cut s (some (i : Int)) none = s.drop i := by
  unfold cut six
  have e : (if (i : Int) < 0 then max ((i : Int) + (s.length : Int)) 0 else min (i : Int) (s.length : Int)).toNat = i := by
    rw [if_neg (by omega)]; omega
  simp only [e]
  rw [List.take_of_length_le]
  rw [List.length_drop]
  omega
/-- what ends here -/
def tails (s : List Nat) : List (List Nat) := (List.range s.length).map fun i => s.drop i
theorem ROk.sub {W : List Int} {R S : List Nat} (h : ROk W R) (hs : ∀ c ∈ S, c ∈ R) : ROk W S := fun c hc => h c (hs c hc)
theorem tail_sub {s t : List Nat} (h : t ∈ tails s) : (∀ c ∈ t, c ∈ s) ∧ t.length ≤ s.length := by
  obtain ⟨i, _, rfl⟩ := List.mem_map.mp h
  exact ⟨fun c hc => List.mem_of_mem_drop hc, by rw [List.length_drop]; omega⟩
def notesOf (W : List Int) (k s : List Nat) (num : Int) (R : List Nat) : List T := ((tails R).filter (fitB W s num)).map (noteT W k)
theorem noteT_fz (W : List Int) (k R : List Nat) : fz (noteT W k R) = noteT W k R := by
  unfold noteT
  split
  · rfl
  · split
    · rfl
    · split
      · rfl
      · split <;> rfl
theorem noteT_own (W : List Int) (k R : List Nat) : Vi.own (noteT W k R) = false := by
  unfold noteT
  split
  · rfl
  · split
    · rfl
    · split
      · rfl
      · split <;> rfl
theorem ti_some (n : Nat) (W : List Int) (R L : List Nat) (c : Nat) (wi : T) (hLl : L.length ≤ 901) : ev (Cfg.mk gl (prog.tab n)) (.lc (.sli (.rd 4) (.som (.var 6)) .non) (.nm 6) (.rng (.b1 .len (.rd 4))) .nil [6]) [some (tupI W), some wi, some (.str R), some (.str [c]), some (.str L), none, none, none] =
    .ok (.lst true ((tails L).map .str)) [some (tupI W), some wi, some (.str R), some (.str [c]), some (.str L), none, none, none] := by
  have h1 : L.length ≤ line := by show _ ≤ 16777216; omega
  have h2 : small62 (L.length : Int) = true := by unfold small62; rw [Bool.and_eq_true, decide_eq_true_eq, decide_eq_true_eq]; omega
  have h0 : small62 0 = true := by decide
  have hi : evi (Cfg.mk gl (prog.tab n)) (.rng (.b1 .len (.rd 4))) [some (tupI W), some wi, some (.str R), some (.str [c]), some (.str L), none, none, none] = .ok (upto 0 (L.length : Int)) [some (tupI W), some wi, some (.str R), some (.str [c]), some (.str L), none, none, none] := by
    have hlen : ev (Cfg.mk gl (prog.tab n)) (.b1 .len (.rd 4)) [some (tupI W), some wi, some (.str R), some (.str [c]), some (.str L), none, none, none] = .ok (.int L.length) [some (tupI W), some wi, some (.str R), some (.str [c]), some (.str L), none, none, none] := by
      show need (if L.length ≤ line then some (T.int L.length) else none) _ = _
      rw [if_pos h1]; rfl
    have hr : rngT (.int 0) (.int (L.length : Int)) = some (upto 0 (L.length : Int)) := by
      show (if (small62 0 && small62 (L.length : Int)) = true then some (upto 0 (L.length : Int)) else none) = _
      rw [h0, h2]; rfl
    exact evi_rng rfl hlen hr
  have k1 := ev_lcg (elt := .sli (.rd 4) (.som (.var 6)) .non) (tg := .nm 6) (ifs := .nil) (own := [6]) (fun x => match x with | .int i => some (.str (L.drop i.toNat)) | _ => none) hi rfl rfl (by unfold upto; rw [List.length_map, List.length_range]; show _ ≤ 16777216; omega) (fun x hx => by
      unfold upto at hx
      obtain ⟨i, hi, rfl⟩ := List.mem_map.mp hx
      have hi2 : i < L.length := by simpa using hi
      refine ⟨[some (tupI W), some wi, some (.str R), some (.str [c]), some (.str L), none, some (.int (i : Int)), none], ?_, rfl⟩
      have h3 := cut_from L i (by omega)
      simp [Def.run, exs_nil, exs_cons, ex_asg, ex_asgT, ex_par, ex_exp, ex_ifs, ex_ret, ex_retv, ex_put, ex_app, ev_var, ev_rd, ev_cst, ev_glo, ev_tup, ev_lst, ev_dct, ev_bin, ev_neg, ev_cmp, ev_chn, ev_isN, ev_notN, ev_and, ev_or, ev_not, ev_ite, ev_idx, ev_sli, ev_call, ev_b1, ev_b2, ev_mt, ev_isi, putM1, isOwnL, kept, setL, appM, parM, evAnd, evOr, evs, evT, eva, evi, evo, evk, callM, argsIn, muts, nodupN, outsIn, strong, isRd, opd, fin1, fin2, fin3, need, Vi.R.bind, Vi.O.get, isiT, tru, cmpT, idxT, atx, ixn, outsOf, getVar, rdVar, setVar, Vi.own, fz, testM, b1T, b2T, mtT, binT, negT, isNf, isNonT, inT, flat, eqb, asg, asgs, dat, dats, eqbs, List.range_succ, wipe, sliT, h3])
  have e2 : (upto 0 (L.length : Int)).filterMap (fun x => match x with | .int i => some (T.str (L.drop i.toNat)) | _ => none) = (tails L).map T.str := by
    unfold upto tails
    rw [List.filterMap_map, List.map_map]
    simp only [Int.sub_zero, Int.toNat_natCast, Function.comp_def, Int.zero_add, List.filterMap_eq_map']
  rw [e2] at k1
  exact k1
theorem ti_notes (n : Nat) (W : List Int) (R L : List Nat) (c : Nat) (k s : List Nat) (num : Int) (no : T) (hLok : ROk W L) (hLl : L.length ≤ 901) : ev (Cfg.mk gl (prog.tab (n + 3))) (.lc (.call 11 (.val (.var 0) (.val (.var 1) (.val (.var 7) .nil)))) (.nm 7) (.of (.var 5)) (.cons (.call 10 (.val (.var 0) (.val (.var 1) (.val (.var 7) .nil)))) .nil) [7])
    [some (tupI W), some (wishT k s num no), some (.str R), some (.str [c]), some (.str L), some (.lst true ((tails L).map .str)), none, none] =
    .ok (.lst true (notesOf W k s num L)) [some (tupI W), some (wishT k s num no), some (.str R), some (.str [c]), some (.str L), some (.lst false ((tails L).map .str)), none, none] := by
  have hi : evi (Cfg.mk gl (prog.tab (n + 3))) (.of (.var 5)) [some (tupI W), some (wishT k s num no), some (.str R), some (.str [c]), some (.str L), some (.lst true ((tails L).map .str)), none, none] = .ok ((tails L).map .str) [some (tupI W), some (wishT k s num no), some (.str R), some (.str [c]), some (.str L), some (.lst false ((tails L).map .str)), none, none] := rfl
  have k2 := ev_lcg (elt := .call 11 (.val (.var 0) (.val (.var 1) (.val (.var 7) .nil)))) (tg := .nm 7) (ifs := .cons (.call 10 (.val (.var 0) (.val (.var 1) (.val (.var 7) .nil)))) .nil) (own := [7])
    (fun x => match x with | .str t => if fitB W s num t then some (noteT W k t) else none | _ => none) hi rfl rfl (by unfold tails; rw [List.length_map, List.length_map, List.length_range]; show _ ≤ 16777216; omega) (fun x hx => by
      obtain ⟨t, ht, rfl⟩ := List.mem_map.mp hx
      obtain ⟨t1, t2⟩ := tail_sub ht
      refine ⟨[some (tupI W), some (wishT k s num no), some (.str R), some (.str [c]), some (.str L), some (.lst false ((tails L).map .str)), none, some (.str t)], ?_, rfl⟩
      have f1 := t_fits n W t k s num no (hLok.sub t1) (by omega)
      have f2 := t_note_of n W t k s num no (hLok.sub t1) (by omega)
      have f3 := noteT_fz W k t
      unfold tupI wishT at f1 f2 ⊢
      cases hf : fitB W s num t
      · rw [hf] at f1
        simp [Def.run, exs_nil, exs_cons, ex_asg, ex_asgT, ex_par, ex_exp, ex_ifs, ex_ret, ex_retv, ex_put, ex_app, ev_var, ev_rd, ev_cst, ev_glo, ev_tup, ev_lst, ev_dct, ev_bin, ev_neg, ev_cmp, ev_chn, ev_isN, ev_notN, ev_and, ev_or, ev_not, ev_ite, ev_idx, ev_sli, ev_call, ev_b1, ev_b2, ev_mt, ev_isi, putM1, isOwnL, kept, setL, appM, parM, evAnd, evOr, evs, evT, eva, evi, evo, evk, callM, argsIn, muts, nodupN, outsIn, strong, isRd, opd, fin1, fin2, fin3, need, Vi.R.bind, Vi.O.get, isiT, tru, cmpT, idxT, atx, ixn, outsOf, getVar, rdVar, setVar, Vi.own, fz, testM, b1T, b2T, mtT, binT, negT, isNf, isNonT, inT, flat, eqb, asg, asgs, dat, dats, eqbs, List.range_succ, wipe, f1, hf]
      · rw [hf] at f1
        simp [Def.run, exs_nil, exs_cons, ex_asg, ex_asgT, ex_par, ex_exp, ex_ifs, ex_ret, ex_retv, ex_put, ex_app, ev_var, ev_rd, ev_cst, ev_glo, ev_tup, ev_lst, ev_dct, ev_bin, ev_neg, ev_cmp, ev_chn, ev_isN, ev_notN, ev_and, ev_or, ev_not, ev_ite, ev_idx, ev_sli, ev_call, ev_b1, ev_b2, ev_mt, ev_isi, putM1, isOwnL, kept, setL, appM, parM, evAnd, evOr, evs, evT, eva, evi, evo, evk, callM, argsIn, muts, nodupN, outsIn, strong, isRd, opd, fin1, fin2, fin3, need, Vi.R.bind, Vi.O.get, isiT, tru, cmpT, idxT, atx, ixn, outsOf, getVar, rdVar, setVar, Vi.own, fz, testM, b1T, b2T, mtT, binT, negT, isNf, isNonT, inT, flat, eqb, asg, asgs, dat, dats, eqbs, List.range_succ, wipe, f1, f2, hf]
        exact f3)
  have e3 : ((tails L).map T.str).filterMap (fun x => match x with | .str t => if fitB W s num t then some (noteT W k t) else none | _ => none) = notesOf W k s num L := by
    unfold notesOf
    rw [List.filterMap_map]
    induction tails L with
    | nil => rfl
    | cons a r ih =>
      rw [List.filterMap_cons, List.filter_cons]
      simp only [Function.comp]
      cases fitB W s num a
      · simpa using ih
      · simp only [if_true, List.map_cons]
        rw [← ih]
  rw [e3] at k2
  exact k2
theorem t_taken_in (n : Nat) (W : List Int) (R : List Nat) (c : Nat) (k s : List Nat) (num : Int) (no : T) (h : ROk W R) (hc : LOk W c) (hl : R.length ≤ 900) (hn : 0 < num) :
    prog.tab (n + 4) 12 [tupI W, wishT k s num no, .str R, .str [c]] = .ret (.tup [.str (lastN num.toNat (R ++ [c])), .lst false (notesOf W k s num (lastN num.toNat (R ++ [c])))]) [none, none, none, none] := by
  rw [tabs (n + 3) 12 d_taken_in _ rfl]
  generalize hL : lastN num.toNat (R ++ [c]) = L
  have hLsub : ∀ x ∈ L, x ∈ R ++ [c] := fun x hx => by rw [← hL] at hx; exact List.mem_of_mem_drop hx
  have hLok : ROk W L := fun x hx => by
    rcases List.mem_append.mp (hLsub x hx) with hx | hx
    · exact h x hx
    · simp at hx; subst hx; exact hc
  have hLl : L.length ≤ 901 := by rw [← hL]; unfold lastN; rw [List.length_drop, List.length_append]; simp; omega
  have e1 := cut_last (R ++ [c]) num hn
  rw [hL] at e1
  have k1 := ti_some (n + 3) W R L c (wishT k s num no) hLl
  have k2 := ti_notes n W R L c k s num no hLok hLl
  have hb2 : R.length + 1 ≤ 16777216 := by omega
  unfold tupI wishT at k1 k2 ⊢
  simp [Def.run, exs_nil, exs_cons, ex_asg, ex_asgT, ex_par, ex_exp, ex_ifs, ex_ret, ex_retv, ex_put, ex_app, ev_var, ev_rd, ev_cst, ev_glo, ev_tup, ev_lst, ev_dct, ev_bin, ev_neg, ev_cmp, ev_chn, ev_isN, ev_notN, ev_and, ev_or, ev_not, ev_ite, ev_idx, ev_sli, ev_call, ev_b1, ev_b2, ev_mt, ev_isi, putM1, isOwnL, kept, setL, appM, parM, evAnd, evOr, evs, evT, eva, evi, evo, evk, callM, argsIn, muts, nodupN, outsIn, strong, isRd, opd, fin1, fin2, fin3, need, Vi.R.bind, Vi.O.get, isiT, tru, cmpT, idxT, atx, ixn, outsOf, getVar, rdVar, setVar, Vi.own, fz, testM, b1T, b2T, mtT, binT, negT, isNf, isNonT, inT, flat, eqb, asg, asgs, dat, dats, eqbs, List.range_succ, d_taken_in, sliT, e1, k1, k2, hb2]
end ViLaw

set_option maxRecDepth 100000
set_option maxHeartbeats 1000000
set_option linter.all false
namespace ViLaw
open Vi
def optT : Option Int → T
  | none => .non
  | some i => .int i
def wordOf (k : List Nat) : List Nat := if k = kGreat then sMost else if k = kSmall then sLeast else if k = kNum then wcount else if k = kLong then sMost else sLeast
def amount (W : List Int) (k : List Nat) (R : List Nat) : Int := if k = kGreat then total W R else if k = kSmall then total W R else if k = kNum then 1 else R.length
theorem noteT_eq (W : List Int) (k R : List Nat) : noteT W k R = .tup [.str (wordOf k), .int (amount W k R)] := by
  unfold noteT wordOf amount
  by_cases h1 : k = kGreat
  · simp only [if_pos h1]
  · by_cases h2 : k = kSmall
    · simp only [if_neg h1, if_pos h2]
    · by_cases h3 : k = kNum
      · simp only [if_neg h1, if_neg h2, if_pos h3]
      · by_cases h4 : k = kLong
        · simp only [if_neg h1, if_neg h2, if_neg h3, if_pos h4]
        · simp only [if_neg h1, if_neg h2, if_neg h3, if_neg h4]
def stepA (w : List Nat) (a : Option Int) (m : Int) : Option Int := match a with
  | none => some m
  | some i => if w = wcount then some (i + m) else if w = sMost then (if i < m then some m else some i) else (if m < i then some m else some i)
def WordOk (w : List Nat) (a : Option Int) : Prop := (w = wcount ∧ a ≠ none) ∨ w = sMost ∨ w = sLeast
theorem stepA_ok {w : List Nat} {a : Option Int} {m : Int} (h : WordOk w a) : WordOk w (stepA w a m) := by
  rcases h with ⟨h1, h2⟩ | h | h
  · refine .inl ⟨h1, ?_⟩
    unfold stepA
    cases a with
    | none => exact absurd rfl h2
    | some i => simp [h1]
  · exact .inr (.inl h)
  · exact .inr (.inr h)
def bodyA : Ss := .cons (.ifs (.cmp .eq (.rd 3) (.cst (.str [99, 111, 117, 110, 116]))) (.cons (.asg 1 (.bin .add (.rd 1) (.rd 4))) .nil) (.cons (.ifs (.or (.cons (.isN (.rd 1)) (.cons (.and (.cons (.cmp .eq (.rd 3) (.cst (.str [109, 111, 115, 116]))) (.cons (.cmp .gt (.rd 4) (.rd 1)) .nil))) (.cons (.and (.cons (.cmp .eq (.rd 3) (.cst (.str [108, 101, 97, 115, 116]))) (.cons (.cmp .lt (.rd 4) (.rd 1)) .nil))) .nil)))) (.cons (.asg 1 (.var 4)) .nil) .nil) .nil)) .nil
theorem bodyA_step (c : Cfg) (wi nt x3 x4 : T) (y3 y4 : Option T) (w : List Nat) (a : Option Int) (m : Int) (h : WordOk w a) : ((asg (.tp (.cons (.nm 3) (.cons (.nm 4) .nil))) (.tup [.str w, .int m]) [some wi, some (optT a), some nt, y3, y4]).bind fun _ e => exs c bodyA e) = .ok .nx [some wi, some (optT (stepA w a m)), some nt, some (.str w), some (.int m)] := by
  rcases h with ⟨rfl, h⟩ | rfl | rfl
  · cases a with
    | none => exact absurd rfl h
    | some i => simp [Def.run, exs_nil, exs_cons, ex_asg, ex_asgT, ex_par, ex_exp, ex_ifs, ex_ret, ex_retv, ex_put, ex_app, ev_var, ev_rd, ev_cst, ev_glo, ev_tup, ev_lst, ev_dct, ev_bin, ev_neg, ev_cmp, ev_chn, ev_isN, ev_notN, ev_and, ev_or, ev_not, ev_ite, ev_idx, ev_sli, ev_call, ev_b1, ev_b2, ev_mt, ev_isi, putM1, isOwnL, kept, setL, appM, parM, evAnd, evOr, evs, evT, eva, evi, evo, evk, callM, argsIn, muts, nodupN, outsIn, strong, isRd, opd, fin1, fin2, fin3, need, Vi.R.bind, Vi.O.get, isiT, tru, cmpT, idxT, atx, ixn, outsOf, getVar, rdVar, setVar, Vi.own, fz, testM, b1T, b2T, mtT, binT, negT, isNf, isNonT, inT, flat, eqb, asg, asgs, dat, dats, eqbs, List.range_succ, bodyA, wcount, optT, stepA]
  · cases a with
    | none => simp [Def.run, exs_nil, exs_cons, ex_asg, ex_asgT, ex_par, ex_exp, ex_ifs, ex_ret, ex_retv, ex_put, ex_app, ev_var, ev_rd, ev_cst, ev_glo, ev_tup, ev_lst, ev_dct, ev_bin, ev_neg, ev_cmp, ev_chn, ev_isN, ev_notN, ev_and, ev_or, ev_not, ev_ite, ev_idx, ev_sli, ev_call, ev_b1, ev_b2, ev_mt, ev_isi, putM1, isOwnL, kept, setL, appM, parM, evAnd, evOr, evs, evT, eva, evi, evo, evk, callM, argsIn, muts, nodupN, outsIn, strong, isRd, opd, fin1, fin2, fin3, need, Vi.R.bind, Vi.O.get, isiT, tru, cmpT, idxT, atx, ixn, outsOf, getVar, rdVar, setVar, Vi.own, fz, testM, b1T, b2T, mtT, binT, negT, isNf, isNonT, inT, flat, eqb, asg, asgs, dat, dats, eqbs, List.range_succ, bodyA, sMost, wcount, optT, stepA]
    | some i =>
      by_cases hm : i < m
      · simp [Def.run, exs_nil, exs_cons, ex_asg, ex_asgT, ex_par, ex_exp, ex_ifs, ex_ret, ex_retv, ex_put, ex_app, ev_var, ev_rd, ev_cst, ev_glo, ev_tup, ev_lst, ev_dct, ev_bin, ev_neg, ev_cmp, ev_chn, ev_isN, ev_notN, ev_and, ev_or, ev_not, ev_ite, ev_idx, ev_sli, ev_call, ev_b1, ev_b2, ev_mt, ev_isi, putM1, isOwnL, kept, setL, appM, parM, evAnd, evOr, evs, evT, eva, evi, evo, evk, callM, argsIn, muts, nodupN, outsIn, strong, isRd, opd, fin1, fin2, fin3, need, Vi.R.bind, Vi.O.get, isiT, tru, cmpT, idxT, atx, ixn, outsOf, getVar, rdVar, setVar, Vi.own, fz, testM, b1T, b2T, mtT, binT, negT, isNf, isNonT, inT, flat, eqb, asg, asgs, dat, dats, eqbs, List.range_succ, bodyA, sMost, wcount, optT, stepA, hm]
      · simp [Def.run, exs_nil, exs_cons, ex_asg, ex_asgT, ex_par, ex_exp, ex_ifs, ex_ret, ex_retv, ex_put, ex_app, ev_var, ev_rd, ev_cst, ev_glo, ev_tup, ev_lst, ev_dct, ev_bin, ev_neg, ev_cmp, ev_chn, ev_isN, ev_notN, ev_and, ev_or, ev_not, ev_ite, ev_idx, ev_sli, ev_call, ev_b1, ev_b2, ev_mt, ev_isi, putM1, isOwnL, kept, setL, appM, parM, evAnd, evOr, evs, evT, eva, evi, evo, evk, callM, argsIn, muts, nodupN, outsIn, strong, isRd, opd, fin1, fin2, fin3, need, Vi.R.bind, Vi.O.get, isiT, tru, cmpT, idxT, atx, ixn, outsOf, getVar, rdVar, setVar, Vi.own, fz, testM, b1T, b2T, mtT, binT, negT, isNf, isNonT, inT, flat, eqb, asg, asgs, dat, dats, eqbs, List.range_succ, bodyA, sMost, wcount, optT, stepA, hm]
  · cases a with
    | none => simp [Def.run, exs_nil, exs_cons, ex_asg, ex_asgT, ex_par, ex_exp, ex_ifs, ex_ret, ex_retv, ex_put, ex_app, ev_var, ev_rd, ev_cst, ev_glo, ev_tup, ev_lst, ev_dct, ev_bin, ev_neg, ev_cmp, ev_chn, ev_isN, ev_notN, ev_and, ev_or, ev_not, ev_ite, ev_idx, ev_sli, ev_call, ev_b1, ev_b2, ev_mt, ev_isi, putM1, isOwnL, kept, setL, appM, parM, evAnd, evOr, evs, evT, eva, evi, evo, evk, callM, argsIn, muts, nodupN, outsIn, strong, isRd, opd, fin1, fin2, fin3, need, Vi.R.bind, Vi.O.get, isiT, tru, cmpT, idxT, atx, ixn, outsOf, getVar, rdVar, setVar, Vi.own, fz, testM, b1T, b2T, mtT, binT, negT, isNf, isNonT, inT, flat, eqb, asg, asgs, dat, dats, eqbs, List.range_succ, bodyA, sLeast, wcount, sMost, optT, stepA]
    | some i =>
      by_cases hm : m < i
      · simp [Def.run, exs_nil, exs_cons, ex_asg, ex_asgT, ex_par, ex_exp, ex_ifs, ex_ret, ex_retv, ex_put, ex_app, ev_var, ev_rd, ev_cst, ev_glo, ev_tup, ev_lst, ev_dct, ev_bin, ev_neg, ev_cmp, ev_chn, ev_isN, ev_notN, ev_and, ev_or, ev_not, ev_ite, ev_idx, ev_sli, ev_call, ev_b1, ev_b2, ev_mt, ev_isi, putM1, isOwnL, kept, setL, appM, parM, evAnd, evOr, evs, evT, eva, evi, evo, evk, callM, argsIn, muts, nodupN, outsIn, strong, isRd, opd, fin1, fin2, fin3, need, Vi.R.bind, Vi.O.get, isiT, tru, cmpT, idxT, atx, ixn, outsOf, getVar, rdVar, setVar, Vi.own, fz, testM, b1T, b2T, mtT, binT, negT, isNf, isNonT, inT, flat, eqb, asg, asgs, dat, dats, eqbs, List.range_succ, bodyA, sLeast, wcount, sMost, optT, stepA, hm]
      · simp [Def.run, exs_nil, exs_cons, ex_asg, ex_asgT, ex_par, ex_exp, ex_ifs, ex_ret, ex_retv, ex_put, ex_app, ev_var, ev_rd, ev_cst, ev_glo, ev_tup, ev_lst, ev_dct, ev_bin, ev_neg, ev_cmp, ev_chn, ev_isN, ev_notN, ev_and, ev_or, ev_not, ev_ite, ev_idx, ev_sli, ev_call, ev_b1, ev_b2, ev_mt, ev_isi, putM1, isOwnL, kept, setL, appM, parM, evAnd, evOr, evs, evT, eva, evi, evo, evk, callM, argsIn, muts, nodupN, outsIn, strong, isRd, opd, fin1, fin2, fin3, need, Vi.R.bind, Vi.O.get, isiT, tru, cmpT, idxT, atx, ixn, outsOf, getVar, rdVar, setVar, Vi.own, fz, testM, b1T, b2T, mtT, binT, negT, isNf, isNonT, inT, flat, eqb, asg, asgs, dat, dats, eqbs, List.range_succ, bodyA, sLeast, wcount, sMost, optT, stepA, hm]
def foldA (w : List Nat) (a : Option Int) (ms : List Int) : Option Int := ms.foldl (stepA w) a
def notesT (w : List Nat) (ms : List Int) : List T := ms.map fun m => .tup [.str w, .int m]
theorem loopA (c : Cfg) (wi nt : T) (w : List Nat) : ∀ (ms : List Int) (a : Option Int) (y3 y4 : Option T), WordOk w a → ∃ z3 z4, forL (asg (.tp (.cons (.nm 3) (.cons (.nm 4) .nil)))) (exs c bodyA) (notesT w ms) [some wi, some (optT a), some nt, y3, y4] = .ok .nx [some wi, some (optT (foldA w a ms)), some nt, z3, z4]
  | [], a, y3, y4, _ => ⟨y3, y4, rfl⟩
  | m :: ms, a, y3, y4, h => by
    obtain ⟨z3, z4, e⟩ := loopA c wi nt w ms (stepA w a m) (some (.str w)) (some (.int m)) (stepA_ok h)
    refine ⟨z3, z4, ?_⟩
    have hb := bodyA_step c wi nt wi wi y3 y4 w a m h
    show ((asg (.tp (.cons (.nm 3) (.cons (.nm 4) .nil))) (.tup [.str w, .int m]) [some wi, some (optT a), some nt, y3, y4]).bind fun _ e => (exs c bodyA e).bind fun f e => match f with
      | .nx => forL (asg (.tp (.cons (.nm 3) (.cons (.nm 4) .nil)))) (exs c bodyA) (notesT w ms) e
      | .cnt => forL (asg (.tp (.cons (.nm 3) (.cons (.nm 4) .nil)))) (exs c bodyA) (notesT w ms) e
      | .brk => .ok .nx e
      | .ret t => .ok (.ret t) e) = _
    cases q : asg (.tp (.cons (.nm 3) (.cons (.nm 4) .nil))) (.tup [.str w, .int m]) [some wi, some (optT a), some nt, y3, y4] with
    | no => rw [q] at hb; cases hb
    | ex k d e => rw [q] at hb; cases hb
    | ok u e1 =>
      rw [q] at hb
      have hb : exs c bodyA e1 = .ok .nx _ := hb
      show ((exs c bodyA e1).bind _) = _
      rw [hb]
      exact e
theorem optT_own (a : Option Int) : Vi.own (optT a) = false := by cases a <;> rfl
theorem t_answered (n : Nat) (wi : T) (w : List Nat) (a : Option Int) (ms : List Int) (h : WordOk w a) : prog.tab (n + 1) 13 [wi, optT a, .lst false (notesT w ms)] = .ret (optT (foldA w a ms)) [none, none, none] := by
  rw [tabs n 13 d_answered _ rfl]
  obtain ⟨z3, z4, e⟩ := loopA (Cfg.mk gl (prog.tab n)) wi (.lst false (notesT w ms)) w ms a none none h
  have e2 : exs (Cfg.mk gl (prog.tab n)) d_answered.body [some wi, some (optT a), some (.lst false (notesT w ms)), none, none] = .ok (.ret (optT (foldA w a ms))) [some wi, none, some (.lst false (notesT w ms)), z3, z4] := by
    show ((forL (asg (.tp (.cons (.nm 3) (.cons (.nm 4) .nil)))) (exs (Cfg.mk gl (prog.tab n)) bodyA) (notesT w ms) [some wi, some (optT a), some (.lst false (notesT w ms)), none, none]).bind fun f e => match f with
      | .nx => exs (Cfg.mk gl (prog.tab n)) (.cons (.retv 1) .nil) e
      | f => .ok f e) = _
    rw [e]
    rfl
  show (match exs (Cfg.mk gl (prog.tab n)) d_answered.body [some wi, some (optT a), some (.lst false (notesT w ms)), none, none] with
    | .no => CR.no
    | .ok (.ret t) e => .ret t (outsOf d_answered e)
    | .ok .nx e => .ret .non (outsOf d_answered e)
    | .ok _ _ => .no
    | .ex k x e => .ex k x (outsOf d_answered e)) = _
  rw [e2]
  rfl
theorem t_start (n : Nat) (k s : List Nat) (num : Int) (no : T) : prog.tab (n + 1) 14 [wishT k s num no] = .ret (optT (if k = kNum then some 0 else none)) [none] := by
  rw [tabs n 14 d_start_answer _ rfl]
  by_cases h : k = kNum
  · subst h
    simp [Def.run, exs_nil, exs_cons, ex_asg, ex_asgT, ex_par, ex_exp, ex_ifs, ex_ret, ex_retv, ex_put, ex_app, ev_var, ev_rd, ev_cst, ev_glo, ev_tup, ev_lst, ev_dct, ev_bin, ev_neg, ev_cmp, ev_chn, ev_isN, ev_notN, ev_and, ev_or, ev_not, ev_ite, ev_idx, ev_sli, ev_call, ev_b1, ev_b2, ev_mt, ev_isi, putM1, isOwnL, kept, setL, appM, parM, evAnd, evOr, evs, evT, eva, evi, evo, evk, callM, argsIn, muts, nodupN, outsIn, strong, isRd, opd, fin1, fin2, fin3, need, Vi.R.bind, Vi.O.get, isiT, tru, cmpT, idxT, atx, ixn, outsOf, getVar, rdVar, setVar, Vi.own, fz, testM, b1T, b2T, mtT, binT, negT, isNf, isNonT, inT, flat, eqb, asg, asgs, dat, dats, eqbs, List.range_succ, d_start_answer, wishT, kNum, optT]
  · unfold kNum at h
    have b : (k == [110, 117, 109, 98, 101, 114]) = false := by simp [h]
    simp [Def.run, exs_nil, exs_cons, ex_asg, ex_asgT, ex_par, ex_exp, ex_ifs, ex_ret, ex_retv, ex_put, ex_app, ev_var, ev_rd, ev_cst, ev_glo, ev_tup, ev_lst, ev_dct, ev_bin, ev_neg, ev_cmp, ev_chn, ev_isN, ev_notN, ev_and, ev_or, ev_not, ev_ite, ev_idx, ev_sli, ev_call, ev_b1, ev_b2, ev_mt, ev_isi, putM1, isOwnL, kept, setL, appM, parM, evAnd, evOr, evs, evT, eva, evi, evo, evk, callM, argsIn, muts, nodupN, outsIn, strong, isRd, opd, fin1, fin2, fin3, need, Vi.R.bind, Vi.O.get, isiT, tru, cmpT, idxT, atx, ixn, outsOf, getVar, rdVar, setVar, Vi.own, fz, testM, b1T, b2T, mtT, binT, negT, isNf, isNonT, inT, flat, eqb, asg, asgs, dat, dats, eqbs, List.range_succ, d_start_answer, wishT, kNum, optT, h, b]
theorem t_final (n : Nat) (k s : List Nat) (num : Int) (no : T) (a : Option Int) (hno : no ≠ .und) : prog.tab (n + 1) 15 [wishT k s num no, optT a] = .ret (match a with | none => no | some i => .int i) [none, none] := by
  rw [tabs n 15 d_final_answer _ rfl]
  cases a with
  | none => simp [Def.run, exs_nil, exs_cons, ex_asg, ex_asgT, ex_par, ex_exp, ex_ifs, ex_ret, ex_retv, ex_put, ex_app, ev_var, ev_rd, ev_cst, ev_glo, ev_tup, ev_lst, ev_dct, ev_bin, ev_neg, ev_cmp, ev_chn, ev_isN, ev_notN, ev_and, ev_or, ev_not, ev_ite, ev_idx, ev_sli, ev_call, ev_b1, ev_b2, ev_mt, ev_isi, putM1, isOwnL, kept, setL, appM, parM, evAnd, evOr, evs, evT, eva, evi, evo, evk, callM, argsIn, muts, nodupN, outsIn, strong, isRd, opd, fin1, fin2, fin3, need, Vi.R.bind, Vi.O.get, isiT, tru, cmpT, idxT, atx, ixn, outsOf, getVar, rdVar, setVar, Vi.own, fz, testM, b1T, b2T, mtT, binT, negT, isNf, isNonT, inT, flat, eqb, asg, asgs, dat, dats, eqbs, List.range_succ, d_final_answer, wishT, optT]
  | some i => simp [Def.run, exs_nil, exs_cons, ex_asg, ex_asgT, ex_par, ex_exp, ex_ifs, ex_ret, ex_retv, ex_put, ex_app, ev_var, ev_rd, ev_cst, ev_glo, ev_tup, ev_lst, ev_dct, ev_bin, ev_neg, ev_cmp, ev_chn, ev_isN, ev_notN, ev_and, ev_or, ev_not, ev_ite, ev_idx, ev_sli, ev_call, ev_b1, ev_b2, ev_mt, ev_isi, putM1, isOwnL, kept, setL, appM, parM, evAnd, evOr, evs, evT, eva, evi, evo, evk, callM, argsIn, muts, nodupN, outsIn, strong, isRd, opd, fin1, fin2, fin3, need, Vi.R.bind, Vi.O.get, isiT, tru, cmpT, idxT, atx, ixn, outsOf, getVar, rdVar, setVar, Vi.own, fz, testM, b1T, b2T, mtT, binT, negT, isNf, isNonT, inT, flat, eqb, asg, asgs, dat, dats, eqbs, List.range_succ, d_final_answer, wishT, optT]
end ViLaw

set_option maxRecDepth 100000
set_option maxHeartbeats 1000000
set_option linter.all false
namespace ViLaw
open Vi
def amts (W : List Int) (k s : List Nat) (num : Int) (L : List Nat) : List Int := ((tails L).filter (fitB W s num)).map (amount W k)
theorem notesOf_eq (W : List Int) (k s : List Nat) (num : Int) (L : List Nat) : notesOf W k s num L = notesT (wordOf k) (amts W k s num L) := by
  unfold notesOf notesT amts
  rw [List.map_map]
  apply List.map_congr_left
  intro t _
  exact noteT_eq W k t
/-- one letter -/
def stepR (W : List Int) (k s : List Nat) (num : Int) (p : List Nat × Option Int) (c : Nat) : List Nat × Option Int := (lastN num.toNat (p.1 ++ [c]), foldA (wordOf k) p.2 (amts W k s num (lastN num.toNat (p.1 ++ [c]))))
theorem foldA_ok {w : List Nat} : ∀ (ms : List Int) {a : Option Int}, WordOk w a → WordOk w (foldA w a ms)
  | [], _, h => h
  | m :: ms, _, h => foldA_ok ms (stepA_ok h)
def bodyR : Ss := .cons (.asgT (.tp (.cons (.nm 4) (.cons (.nm 6) .nil))) (.call 12 (.val (.var 0) (.val (.var 1) (.val (.var 4) (.val (.var 3) .nil)))))) (.cons (.asg 5 (.call 13 (.val (.var 1) (.val (.var 5) (.val (.var 6) .nil))))) .nil)
theorem bodyR_step (n : Nat) (W : List Int) (k s : List Nat) (num : Int) (no row : T) (y3 y6 : Option T) (S : List Nat) (a : Option Int) (c : Nat) (hS : ROk W S) (hc : LOk W c) (hl : S.length ≤ 900) (hn : 0 < num) (h : WordOk (wordOf k) a) :
    ((asg (.nm 3) (.str [c]) [some (tupI W), some (wishT k s num no), some row, y3, some (.str S), some (optT a), y6]).bind fun _ e => exs (Cfg.mk gl (prog.tab (n + 4))) bodyR e) =
      .ok .nx [some (tupI W), some (wishT k s num no), some row, some (.str [c]), some (.str (stepR W k s num (S, a) c).1), some (optT (stepR W k s num (S, a) c).2), some (.lst false (notesT (wordOf k) (amts W k s num (lastN num.toNat (S ++ [c])))))] := by
  have k1 := t_taken_in n W S c k s num no hS hc hl hn
  rw [notesOf_eq] at k1
  have k2 := t_answered (n + 3) (wishT k s num no) (wordOf k) a (amts W k s num (lastN num.toNat (S ++ [c]))) h
  have o := optT_own a
  unfold stepR
  generalize lastN num.toNat (S ++ [c]) = L at k1 k2 ⊢
  generalize notesT (wordOf k) (amts W k s num L) = N at k1 k2 ⊢
  generalize foldA (wordOf k) a (amts W k s num L) = b at k2 ⊢
  unfold tupI at k1 ⊢
  unfold wishT at k1 k2 ⊢
  cases a with
  | none =>
    have k2 : prog.tab (n + 4) 13 [.tup [.str k, .str s, .int num, no], .non, .lst false N] = _ := k2
    cases b with
    | none => simp [Def.run, exs_nil, exs_cons, ex_asg, ex_asgT, ex_par, ex_exp, ex_ifs, ex_ret, ex_retv, ex_put, ex_app, ev_var, ev_rd, ev_cst, ev_glo, ev_tup, ev_lst, ev_dct, ev_bin, ev_neg, ev_cmp, ev_chn, ev_isN, ev_notN, ev_and, ev_or, ev_not, ev_ite, ev_idx, ev_sli, ev_call, ev_b1, ev_b2, ev_mt, ev_isi, putM1, isOwnL, kept, setL, appM, parM, evAnd, evOr, evs, evT, eva, evi, evo, evk, callM, argsIn, muts, nodupN, outsIn, strong, isRd, opd, fin1, fin2, fin3, need, Vi.R.bind, Vi.O.get, isiT, tru, cmpT, idxT, atx, ixn, outsOf, getVar, rdVar, setVar, Vi.own, fz, testM, b1T, b2T, mtT, binT, negT, isNf, isNonT, inT, flat, eqb, asg, asgs, dat, dats, eqbs, List.range_succ, bodyR, k1, k2, optT]
    | some j => simp [Def.run, exs_nil, exs_cons, ex_asg, ex_asgT, ex_par, ex_exp, ex_ifs, ex_ret, ex_retv, ex_put, ex_app, ev_var, ev_rd, ev_cst, ev_glo, ev_tup, ev_lst, ev_dct, ev_bin, ev_neg, ev_cmp, ev_chn, ev_isN, ev_notN, ev_and, ev_or, ev_not, ev_ite, ev_idx, ev_sli, ev_call, ev_b1, ev_b2, ev_mt, ev_isi, putM1, isOwnL, kept, setL, appM, parM, evAnd, evOr, evs, evT, eva, evi, evo, evk, callM, argsIn, muts, nodupN, outsIn, strong, isRd, opd, fin1, fin2, fin3, need, Vi.R.bind, Vi.O.get, isiT, tru, cmpT, idxT, atx, ixn, outsOf, getVar, rdVar, setVar, Vi.own, fz, testM, b1T, b2T, mtT, binT, negT, isNf, isNonT, inT, flat, eqb, asg, asgs, dat, dats, eqbs, List.range_succ, bodyR, k1, k2, optT]
  | some i =>
    have k2 : prog.tab (n + 4) 13 [.tup [.str k, .str s, .int num, no], .int i, .lst false N] = _ := k2
    cases b with
    | none => simp [Def.run, exs_nil, exs_cons, ex_asg, ex_asgT, ex_par, ex_exp, ex_ifs, ex_ret, ex_retv, ex_put, ex_app, ev_var, ev_rd, ev_cst, ev_glo, ev_tup, ev_lst, ev_dct, ev_bin, ev_neg, ev_cmp, ev_chn, ev_isN, ev_notN, ev_and, ev_or, ev_not, ev_ite, ev_idx, ev_sli, ev_call, ev_b1, ev_b2, ev_mt, ev_isi, putM1, isOwnL, kept, setL, appM, parM, evAnd, evOr, evs, evT, eva, evi, evo, evk, callM, argsIn, muts, nodupN, outsIn, strong, isRd, opd, fin1, fin2, fin3, need, Vi.R.bind, Vi.O.get, isiT, tru, cmpT, idxT, atx, ixn, outsOf, getVar, rdVar, setVar, Vi.own, fz, testM, b1T, b2T, mtT, binT, negT, isNf, isNonT, inT, flat, eqb, asg, asgs, dat, dats, eqbs, List.range_succ, bodyR, k1, k2, optT]
    | some j => simp [Def.run, exs_nil, exs_cons, ex_asg, ex_asgT, ex_par, ex_exp, ex_ifs, ex_ret, ex_retv, ex_put, ex_app, ev_var, ev_rd, ev_cst, ev_glo, ev_tup, ev_lst, ev_dct, ev_bin, ev_neg, ev_cmp, ev_chn, ev_isN, ev_notN, ev_and, ev_or, ev_not, ev_ite, ev_idx, ev_sli, ev_call, ev_b1, ev_b2, ev_mt, ev_isi, putM1, isOwnL, kept, setL, appM, parM, evAnd, evOr, evs, evT, eva, evi, evo, evk, callM, argsIn, muts, nodupN, outsIn, strong, isRd, opd, fin1, fin2, fin3, need, Vi.R.bind, Vi.O.get, isiT, tru, cmpT, idxT, atx, ixn, outsOf, getVar, rdVar, setVar, Vi.own, fz, testM, b1T, b2T, mtT, binT, negT, isNf, isNonT, inT, flat, eqb, asg, asgs, dat, dats, eqbs, List.range_succ, bodyR, k1, k2, optT]
theorem lastN_len (m : Nat) (s : List Nat) : (lastN m s).length ≤ m := by
  unfold lastN
  rw [List.length_drop]
  omega
theorem loopR (n : Nat) (W : List Int) (k s : List Nat) (num : Int) (no row : T) (hn : 0 < num) (hn2 : num ≤ 800) : ∀ (R S : List Nat) (a : Option Int) (y3 y6 : Option T), ROk W R → ROk W S → S.length ≤ 900 → WordOk (wordOf k) a →
    ∃ z3 z6, forL (asg (.nm 3)) (exs (Cfg.mk gl (prog.tab (n + 4))) bodyR) (R.map fun c => .str [c]) [some (tupI W), some (wishT k s num no), some row, y3, some (.str S), some (optT a), y6] =
      .ok .nx [some (tupI W), some (wishT k s num no), some row, z3, some (.str (R.foldl (stepR W k s num) (S, a)).1), some (optT (R.foldl (stepR W k s num) (S, a)).2), z6]
  | [], S, a, y3, y6, _, _, _, _ => ⟨y3, y6, rfl⟩
  | c :: R, S, a, y3, y6, hR, hS, hl, h => by
    have hc := hR c List.mem_cons_self
    have hb := bodyR_step n W k s num no row y3 y6 S a c hS hc hl hn h
    have hS2 : ROk W (stepR W k s num (S, a) c).1 := fun x hx => by
      have hx : x ∈ S ++ [c] := List.mem_of_mem_drop hx
      rcases List.mem_append.mp hx with hx | hx
      · exact hS x hx
      · simp at hx; subst hx; exact hc
    have hl2 : (stepR W k s num (S, a) c).1.length ≤ 900 := by
      have := lastN_len num.toNat (S ++ [c])
      show (lastN num.toNat (S ++ [c])).length ≤ 900
      omega
    obtain ⟨z3, z6, e⟩ := loopR n W k s num no row hn hn2 R (stepR W k s num (S, a) c).1 (stepR W k s num (S, a) c).2 (some (.str [c])) (some (.lst false (notesT (wordOf k) (amts W k s num (lastN num.toNat (S ++ [c])))))) (fun x hx => hR x (List.mem_cons_of_mem _ hx)) hS2 hl2 (foldA_ok _ h)
    refine ⟨z3, z6, ?_⟩
    show ((asg (.nm 3) (.str [c]) [some (tupI W), some (wishT k s num no), some row, y3, some (.str S), some (optT a), y6]).bind fun _ e => (exs (Cfg.mk gl (prog.tab (n + 4))) bodyR e).bind fun f e => match f with
      | .nx => forL (asg (.nm 3)) (exs (Cfg.mk gl (prog.tab (n + 4))) bodyR) (R.map fun c => .str [c]) e
      | .cnt => forL (asg (.nm 3)) (exs (Cfg.mk gl (prog.tab (n + 4))) bodyR) (R.map fun c => .str [c]) e
      | .brk => .ok .nx e
      | .ret t => .ok (.ret t) e) = _
    cases q : asg (.nm 3) (.str [c]) [some (tupI W), some (wishT k s num no), some row, y3, some (.str S), some (optT a), y6] with
    | no => rw [q] at hb; cases hb
    | ex k d e => rw [q] at hb; cases hb
    | ok u e1 =>
      rw [q] at hb
      have hb : exs (Cfg.mk gl (prog.tab (n + 4))) bodyR e1 = .ok .nx _ := hb
      show ((exs (Cfg.mk gl (prog.tab (n + 4))) bodyR e1).bind _) = _
      rw [hb]
      exact e
/-- the program's answer -/
def answerOf (W : List Int) (k s : List Nat) (num : Int) (R : List Nat) : Option Int := (R.foldl (stepR W k s num) ([], if k = kNum then some 0 else none)).2
theorem word0 (k : List Nat) : WordOk (wordOf k) (if k = kNum then some 0 else none) := by
  unfold wordOf
  by_cases h1 : k = kGreat
  · simp only [if_pos h1]; exact .inr (.inl rfl)
  · by_cases h2 : k = kSmall
    · simp only [if_neg h1, if_pos h2]; exact .inr (.inr rfl)
    · by_cases h3 : k = kNum
      · simp only [if_neg h1, if_neg h2, if_pos h3]; exact .inl ⟨rfl, by simp⟩
      · by_cases h4 : k = kLong
        · simp only [if_neg h1, if_neg h2, if_neg h3, if_pos h4]; exact .inr (.inl rfl)
        · simp only [if_neg h1, if_neg h2, if_neg h3, if_neg h4]; exact .inr (.inr rfl)
end ViLaw

set_option maxRecDepth 100000
set_option maxHeartbeats 1000000
set_option linter.all false
namespace ViLaw
open Vi
def ansT (no : T) (a : Option Int) : T := match a with
  | none => no
  | some i => .int i
theorem t_answer_for (n : Nat) (W : List Int) (R : List Nat) (k s : List Nat) (num : Int) (no : T) (hR : ROk W R) (hn : 0 < num) (hn2 : num ≤ 800) (hno : no ≠ .und) :
    prog.tab (n + 5) 16 [tupI W, wishT k s num no, .str R] = .ret (ansT no (answerOf W k s num R)) [none, none, none] := by
  rw [tabs (n + 4) 16 d_answer_for _ rfl]
  obtain ⟨z3, z6, e⟩ := loopR n W k s num no (.str R) hn hn2 R [] (if k = kNum then some 0 else none) none none hR (fun x hx => by simp at hx) (Nat.zero_le _) (word0 k)
  have hs := t_start (n + 3) k s num no
  have hf := t_final (n + 3) k s num no (answerOf W k s num R) hno
  unfold answerOf at hf ⊢
  generalize (R.foldl (stepR W k s num) ([], if k = kNum then some 0 else none)).2 = b at e hf ⊢
  generalize (R.foldl (stepR W k s num) ([], if k = kNum then some 0 else none)).1 = S at e
  generalize (if k = kNum then some 0 else none : Option Int) = a at e hs
  have o1 := optT_own a
  have o2 := optT_own b
  have e1 : ex (Cfg.mk gl (prog.tab (n + 4))) (.par [4, 5] (.cons (.cst (.str [])) (.cons (.call 14 (.val (.var 1) .nil)) .nil))) [some (tupI W), some (wishT k s num no), some (.str R), none, none, none, none] = .ok .nx [some (tupI W), some (wishT k s num no), some (.str R), none, some (.str []), some (optT a), none] := by
    unfold wishT at hs ⊢
    have hs : prog.tab (n + 4) 14 _ = _ := hs
    simp [Def.run, exs_nil, exs_cons, ex_asg, ex_asgT, ex_par, ex_exp, ex_ifs, ex_ret, ex_retv, ex_put, ex_app, ev_var, ev_rd, ev_cst, ev_glo, ev_tup, ev_lst, ev_dct, ev_bin, ev_neg, ev_cmp, ev_chn, ev_isN, ev_notN, ev_and, ev_or, ev_not, ev_ite, ev_idx, ev_sli, ev_call, ev_b1, ev_b2, ev_mt, ev_isi, putM1, isOwnL, kept, setL, appM, parM, evAnd, evOr, evs, evT, eva, evi, evo, evk, callM, argsIn, muts, nodupN, outsIn, strong, isRd, opd, fin1, fin2, fin3, need, Vi.R.bind, Vi.O.get, isiT, tru, cmpT, idxT, atx, ixn, outsOf, getVar, rdVar, setVar, Vi.own, fz, testM, b1T, b2T, mtT, binT, negT, isNf, isNonT, inT, flat, eqb, asg, asgs, dat, dats, eqbs, List.range_succ, hs]
  have e2 : ex (Cfg.mk gl (prog.tab (n + 4))) (.ret (.call 15 (.val (.var 1) (.val (.var 5) .nil)))) [some (tupI W), some (wishT k s num no), some (.str R), z3, some (.str S), some (optT b), z6] = .ok (.ret (ansT no b)) [some (tupI W), some (wishT k s num no), some (.str R), z3, some (.str S), some (optT b), z6] := by
    unfold wishT at hf ⊢
    have hf : prog.tab (n + 4) 15 _ = _ := hf
    cases b with
    | none =>
      have hf : prog.tab (n + 4) 15 [.tup [.str k, .str s, .int num, no], .non] = _ := hf
      simp [Def.run, exs_nil, exs_cons, ex_asg, ex_asgT, ex_par, ex_exp, ex_ifs, ex_ret, ex_retv, ex_put, ex_app, ev_var, ev_rd, ev_cst, ev_glo, ev_tup, ev_lst, ev_dct, ev_bin, ev_neg, ev_cmp, ev_chn, ev_isN, ev_notN, ev_and, ev_or, ev_not, ev_ite, ev_idx, ev_sli, ev_call, ev_b1, ev_b2, ev_mt, ev_isi, putM1, isOwnL, kept, setL, appM, parM, evAnd, evOr, evs, evT, eva, evi, evo, evk, callM, argsIn, muts, nodupN, outsIn, strong, isRd, opd, fin1, fin2, fin3, need, Vi.R.bind, Vi.O.get, isiT, tru, cmpT, idxT, atx, ixn, outsOf, getVar, rdVar, setVar, Vi.own, fz, testM, b1T, b2T, mtT, binT, negT, isNf, isNonT, inT, flat, eqb, asg, asgs, dat, dats, eqbs, List.range_succ, hf, optT, ansT]
    | some j =>
      have hf : prog.tab (n + 4) 15 [.tup [.str k, .str s, .int num, no], .int j] = _ := hf
      simp [Def.run, exs_nil, exs_cons, ex_asg, ex_asgT, ex_par, ex_exp, ex_ifs, ex_ret, ex_retv, ex_put, ex_app, ev_var, ev_rd, ev_cst, ev_glo, ev_tup, ev_lst, ev_dct, ev_bin, ev_neg, ev_cmp, ev_chn, ev_isN, ev_notN, ev_and, ev_or, ev_not, ev_ite, ev_idx, ev_sli, ev_call, ev_b1, ev_b2, ev_mt, ev_isi, putM1, isOwnL, kept, setL, appM, parM, evAnd, evOr, evs, evT, eva, evi, evo, evk, callM, argsIn, muts, nodupN, outsIn, strong, isRd, opd, fin1, fin2, fin3, need, Vi.R.bind, Vi.O.get, isiT, tru, cmpT, idxT, atx, ixn, outsOf, getVar, rdVar, setVar, Vi.own, fz, testM, b1T, b2T, mtT, binT, negT, isNf, isNonT, inT, flat, eqb, asg, asgs, dat, dats, eqbs, List.range_succ, hf, optT, ansT]
  have e3 : exs (Cfg.mk gl (prog.tab (n + 4))) d_answer_for.body [some (tupI W), some (wishT k s num no), some (.str R), none, none, none, none] = .ok (.ret (ansT no b)) [some (tupI W), some (wishT k s num no), some (.str R), z3, some (.str S), some (optT b), z6] := by
    refine exs_nx e1 (exs_nx ?_ (exs_ret e2))
    show ((evi (Cfg.mk gl (prog.tab (n + 4))) (.of (.var 2)) [some (tupI W), some (wishT k s num no), some (.str R), none, some (.str []), some (optT a), none]).bind fun l e => forL (asg (.nm 3)) (exs (Cfg.mk gl (prog.tab (n + 4))) bodyR) l e) = _
    exact e
  show (match exs (Cfg.mk gl (prog.tab (n + 4))) d_answer_for.body [some (tupI W), some (wishT k s num no), some (.str R), none, none, none, none] with
    | .no => CR.no
    | .ok (.ret t) e => .ret t (outsOf d_answer_for e)
    | .ok .nx e => .ret .non (outsOf d_answer_for e)
    | .ok _ _ => .no
    | .ex k x e => .ex k x (outsOf d_answer_for e)) = _
  rw [e3]
  rfl
end ViLaw

set_option maxRecDepth 100000
set_option maxHeartbeats 1000000
set_option linter.all false
namespace ViLaw
open Vi
def WOk (W : List Int) : Prop := 1 ≤ W.length ∧ W.length ≤ 3 ∧ ∀ w ∈ W, 1 ≤ w ∧ w ≤ 3
theorem all_true {α : Type} : ∀ l : List α, (l.map fun _ => true).all id = true
  | [] => rfl
  | a :: l => by simp
theorem t_is_worths (n : Nat) (W : List Int) (h : WOk W) : prog.tab (n + 2) 2 [tupI W] = .ret (.bl true) [none] := by
  obtain ⟨h1, h2, h3⟩ := h
  rw [tabs (n + 1) 2 d_is_worths _ rfl]
  have k1 := ev_lcg (c := Cfg.mk gl (prog.tab (n + 1))) (elt := .call 0 (.val (.var 1) (.val (.cst (.int 1)) (.val (.cst (.int 3)) .nil)))) (tg := .nm 1) (it := .of (.var 0)) (ifs := .nil) (own := [1]) (e := [some (tupI W), none]) (e0 := [some (tupI W), none]) (l := W.map .int) (fun _ => some (.bl true)) rfl rfl rfl (by rw [List.length_map]; show _ ≤ 16777216; omega) (fun x hx => by
    obtain ⟨w, hw, rfl⟩ := List.mem_map.mp hx
    obtain ⟨a1, a2⟩ := h3 w hw
    refine ⟨[some (tupI W), some (.int w)], ?_, rfl⟩
    have f := t_is_number n (.int w) 1 3 (by simp [isiT])
    have e : numOk (.int w) 1 3 = true := by simp [numOk, a1, a2]
    rw [e] at f
    unfold tupI
    simp [Def.run, exs_nil, exs_cons, ex_asg, ex_asgT, ex_par, ex_exp, ex_ifs, ex_ret, ex_retv, ex_put, ex_app, ev_var, ev_rd, ev_cst, ev_glo, ev_tup, ev_lst, ev_dct, ev_bin, ev_neg, ev_cmp, ev_chn, ev_isN, ev_notN, ev_and, ev_or, ev_not, ev_ite, ev_idx, ev_sli, ev_call, ev_b1, ev_b2, ev_mt, ev_isi, putM1, isOwnL, kept, setL, appM, parM, evAnd, evOr, evs, evT, eva, evi, evo, evk, callM, argsIn, muts, nodupN, outsIn, strong, isRd, opd, fin1, fin2, fin3, need, Vi.R.bind, Vi.O.get, isiT, tru, cmpT, idxT, atx, ixn, outsOf, getVar, rdVar, setVar, Vi.own, fz, testM, b1T, b2T, mtT, binT, negT, isNf, isNonT, inT, flat, eqb, asg, asgs, dat, dats, eqbs, List.range_succ, wipe, f])
  rw [fm_true] at k1
  have b1 : (1 : Int) ≤ W.length := by omega
  have b2 : (W.length : Int) ≤ 3 := by omega
  have e3 : exs (Cfg.mk gl (prog.tab (n + 1))) d_is_worths.body [some (tupI W), none] = .ok (.ret (.bl true)) [some (tupI W), none] := by
    refine exs_ret (ret_of rfl (and_next rfl (t := .bl true) (e1 := [some (tupI W), none]) ?_ rfl (and_next rfl (t := .bl true) (e1 := [some (tupI W), none]) ?_ rfl (and_last rfl ?_))))
    · rfl
    · unfold tupI
      simp [Def.run, exs_nil, exs_cons, ex_asg, ex_asgT, ex_par, ex_exp, ex_ifs, ex_ret, ex_retv, ex_put, ex_app, ev_var, ev_rd, ev_cst, ev_glo, ev_tup, ev_lst, ev_dct, ev_bin, ev_neg, ev_cmp, ev_chn, ev_isN, ev_notN, ev_and, ev_or, ev_not, ev_ite, ev_idx, ev_sli, ev_call, ev_b1, ev_b2, ev_mt, ev_isi, putM1, isOwnL, kept, setL, appM, parM, evAnd, evOr, evs, evT, eva, evi, evo, evk, callM, argsIn, muts, nodupN, outsIn, strong, isRd, opd, fin1, fin2, fin3, need, Vi.R.bind, Vi.O.get, isiT, tru, cmpT, idxT, atx, ixn, outsOf, getVar, rdVar, setVar, Vi.own, fz, testM, b1T, b2T, mtT, binT, negT, isNf, isNonT, inT, flat, eqb, asg, asgs, dat, dats, eqbs, List.range_succ, b1, b2]
    · have := all_of rfl k1 (bls_map _)
      rw [all_true] at this
      exact this
  rw [run_ret rfl e3]
  rfl
/-- a row -/
theorem t_is_row_of (n : Nat) (W : List Int) (R : List Nat) (h : ROk W R) (hW : WOk W) (hl : R.length ≤ 40) : prog.tab (n + 1) 3 [tupI W, .str R] = .ret (.bl true) [none, none] := by
  obtain ⟨w1, w2, w3⟩ := hW
  rw [tabs n 3 d_is_row_of _ rfl]
  have k1 := ev_lcg (c := Cfg.mk gl (prog.tab n)) (elt := .cmp .inn (.rd 2) (.sli (.glo 0) .non (.som (.b1 .len (.rd 0))))) (tg := .nm 2) (it := .of (.var 1)) (ifs := .nil) (own := [2]) (e := [some (tupI W), some (.str R), none]) (e0 := [some (tupI W), some (.str R), none]) (l := R.map fun c => .str [c]) (fun _ => some (.bl true)) rfl rfl rfl (by rw [List.length_map]; show _ ≤ 16777216; omega) (fun x hx => by
    obtain ⟨c, hc, rfl⟩ := List.mem_map.mp hx
    refine ⟨[some (tupI W), some (.str R), some (.str [c])], ?_, rfl⟩
    have e : (cut lets none (some (W.length : Int))).contains c = true := by
      obtain ⟨a1, a2, a3⟩ := h c hc
      have hc3 : c = 97 ∨ c = 98 ∨ c = 99 := by omega
      have hw3 : W.length = 1 ∨ W.length = 2 ∨ W.length = 3 := by omega
      rcases hw3 with q | q | q <;> rw [q] at a2 ⊢ <;> rcases hc3 with rfl | rfl | rfl <;> first | rfl | omega
    have e' : c ∈ cut lets none (some (W.length : Int)) := by simpa using e
    unfold tupI
    simp [Def.run, exs_nil, exs_cons, ex_asg, ex_asgT, ex_par, ex_exp, ex_ifs, ex_ret, ex_retv, ex_put, ex_app, ev_var, ev_rd, ev_cst, ev_glo, ev_tup, ev_lst, ev_dct, ev_bin, ev_neg, ev_cmp, ev_chn, ev_isN, ev_notN, ev_and, ev_or, ev_not, ev_ite, ev_idx, ev_sli, ev_call, ev_b1, ev_b2, ev_mt, ev_isi, putM1, isOwnL, kept, setL, appM, parM, evAnd, evOr, evs, evT, eva, evi, evo, evk, callM, argsIn, muts, nodupN, outsIn, strong, isRd, opd, fin1, fin2, fin3, need, Vi.R.bind, Vi.O.get, isiT, tru, cmpT, idxT, atx, ixn, outsOf, getVar, rdVar, setVar, Vi.own, fz, testM, b1T, b2T, mtT, binT, negT, isNf, isNonT, inT, flat, eqb, asg, asgs, dat, dats, eqbs, List.range_succ, wipe, glos0, glo0, sliT, e, e'])
  rw [fm_true] at k1
  have b1 : ¬ (40 : Int) < R.length := by omega
  have b2 : R.length ≤ line := by show _ ≤ 16777216; omega
  have e3 : exs (Cfg.mk gl (prog.tab n)) d_is_row_of.body [some (tupI W), some (.str R), none] = .ok (.ret (.bl true)) [some (tupI W), some (.str R), none] := by
    refine exs_nx (e1 := [some (tupI W), some (.str R), none]) ?_ (exs_ret (ret_of rfl ?_))
    · have b3 : R.length ≤ 16777216 := b2
      simp [Def.run, exs_nil, exs_cons, ex_asg, ex_asgT, ex_par, ex_exp, ex_ifs, ex_ret, ex_retv, ex_put, ex_app, ev_var, ev_rd, ev_cst, ev_glo, ev_tup, ev_lst, ev_dct, ev_bin, ev_neg, ev_cmp, ev_chn, ev_isN, ev_notN, ev_and, ev_or, ev_not, ev_ite, ev_idx, ev_sli, ev_call, ev_b1, ev_b2, ev_mt, ev_isi, putM1, isOwnL, kept, setL, appM, parM, evAnd, evOr, evs, evT, eva, evi, evo, evk, callM, argsIn, muts, nodupN, outsIn, strong, isRd, opd, fin1, fin2, fin3, need, Vi.R.bind, Vi.O.get, isiT, tru, cmpT, idxT, atx, ixn, outsOf, getVar, rdVar, setVar, Vi.own, fz, testM, b1T, b2T, mtT, binT, negT, isNf, isNonT, inT, flat, eqb, asg, asgs, dat, dats, eqbs, List.range_succ, b1, b2, b3]
    · have := all_of rfl k1 (bls_map _)
      rw [all_true] at this
      exact this
  rw [run_ret rfl e3]
  rfl
end ViLaw

set_option maxRecDepth 100000
set_option maxHeartbeats 1000000
set_option linter.all false
namespace ViLaw
open Vi
/-- wishes -/
def KOk (k s : List Nat) (no : T) : Prop :=
  (k = kLong ∧ (s = sMost ∨ s = sJust) ∧ (no = .non ∨ no = .int 0 ∨ no = .int (-1))) ∨ (k = kShort ∧ (s = sLeast ∨ s = sJust) ∧ no = .non) ∨ (k = kNum ∧ (s = sMost ∨ s = sJust) ∧ no = .int 0) ∨ (k = kGreat ∧ s = sSize ∧ (no = .non ∨ no = .int 0 ∨ no = .int (-1))) ∨ (k = kSmall ∧ s = sSize ∧ no = .non)
theorem t_is_wish (n : Nat) (k s : List Nat) (num : Int) (no : T) (h : KOk k s no) (h1 : 1 ≤ num) (h2 : num ≤ 5) : prog.tab (n + 2) 4 [wishT k s num no] = .ret (.bl true) [none] := by
  have hn : num = 1 ∨ num = 2 ∨ num = 3 ∨ num = 4 ∨ num = 5 := by omega
  rcases h with ⟨rfl, h, g⟩ | ⟨rfl, h, rfl⟩ | ⟨rfl, h, rfl⟩ | ⟨rfl, rfl, g⟩ | ⟨rfl, rfl, rfl⟩
  · rcases h with rfl | rfl <;> rcases g with rfl | rfl | rfl <;> rcases hn with rfl | rfl | rfl | rfl | rfl <;> rfl
  · rcases h with rfl | rfl <;> rcases hn with rfl | rfl | rfl | rfl | rfl <;> rfl
  · rcases h with rfl | rfl <;> rcases hn with rfl | rfl | rfl | rfl | rfl <;> rfl
  · rcases g with rfl | rfl | rfl <;> rcases hn with rfl | rfl | rfl | rfl | rfl <;> rfl
  · rcases hn with rfl | rfl | rfl | rfl | rfl <;> rfl
theorem KOk.und {k s : List Nat} {no : T} (h : KOk k s no) : no ≠ .und := by
  rcases h with ⟨_, _, g⟩ | ⟨_, _, g⟩ | ⟨_, _, g⟩ | ⟨_, _, g⟩ | ⟨_, _, g⟩
  · rcases g with rfl | rfl | rfl <;> exact fun z => nomatch z
  · subst g; exact fun z => nomatch z
  · subst g; exact fun z => nomatch z
  · rcases g with rfl | rfl | rfl <;> exact fun z => nomatch z
  · subst g; exact fun z => nomatch z
theorem t_need_worths (n : Nat) (W : List Int) (h : WOk W) : prog.tab (n + 3) 5 [tupI W] = .ret .non [none] := by
  rw [tabs (n + 2) 5 d_need_worths _ rfl]
  have k := t_is_worths n W h
  unfold tupI at k ⊢
  simp [Def.run, exs_nil, exs_cons, ex_asg, ex_asgT, ex_par, ex_exp, ex_ifs, ex_ret, ex_retv, ex_put, ex_app, ev_var, ev_rd, ev_cst, ev_glo, ev_tup, ev_lst, ev_dct, ev_bin, ev_neg, ev_cmp, ev_chn, ev_isN, ev_notN, ev_and, ev_or, ev_not, ev_ite, ev_idx, ev_sli, ev_call, ev_b1, ev_b2, ev_mt, ev_isi, putM1, isOwnL, kept, setL, appM, parM, evAnd, evOr, evs, evT, eva, evi, evo, evk, callM, argsIn, muts, nodupN, outsIn, strong, isRd, opd, fin1, fin2, fin3, need, Vi.R.bind, Vi.O.get, isiT, tru, cmpT, idxT, atx, ixn, outsOf, getVar, rdVar, setVar, Vi.own, fz, testM, b1T, b2T, mtT, binT, negT, isNf, isNonT, inT, flat, eqb, asg, asgs, dat, dats, eqbs, List.range_succ, d_need_worths, k]
theorem t_need_wish (n : Nat) (k s : List Nat) (num : Int) (no : T) (h : KOk k s no) (h1 : 1 ≤ num) (h2 : num ≤ 5) : prog.tab (n + 3) 6 [wishT k s num no] = .ret .non [none] := by
  rw [tabs (n + 2) 6 d_need_wish _ rfl]
  have k := t_is_wish n k s num no h h1 h2
  unfold wishT at k ⊢
  simp [Def.run, exs_nil, exs_cons, ex_asg, ex_asgT, ex_par, ex_exp, ex_ifs, ex_ret, ex_retv, ex_put, ex_app, ev_var, ev_rd, ev_cst, ev_glo, ev_tup, ev_lst, ev_dct, ev_bin, ev_neg, ev_cmp, ev_chn, ev_isN, ev_notN, ev_and, ev_or, ev_not, ev_ite, ev_idx, ev_sli, ev_call, ev_b1, ev_b2, ev_mt, ev_isi, putM1, isOwnL, kept, setL, appM, parM, evAnd, evOr, evs, evT, eva, evi, evo, evk, callM, argsIn, muts, nodupN, outsIn, strong, isRd, opd, fin1, fin2, fin3, need, Vi.R.bind, Vi.O.get, isiT, tru, cmpT, idxT, atx, ixn, outsOf, getVar, rdVar, setVar, Vi.own, fz, testM, b1T, b2T, mtT, binT, negT, isNf, isNonT, inT, flat, eqb, asg, asgs, dat, dats, eqbs, List.range_succ, d_need_wish, k]
theorem t_need_row (n : Nat) (W : List Int) (R : List Nat) (h : ROk W R) (hW : WOk W) (hl : R.length ≤ 40) : prog.tab (n + 2) 7 [tupI W, .str R] = .ret .non [none, none] := by
  rw [tabs (n + 1) 7 d_need_row _ rfl]
  have k := t_is_row_of n W R h hW hl
  unfold tupI at k ⊢
  simp [Def.run, exs_nil, exs_cons, ex_asg, ex_asgT, ex_par, ex_exp, ex_ifs, ex_ret, ex_retv, ex_put, ex_app, ev_var, ev_rd, ev_cst, ev_glo, ev_tup, ev_lst, ev_dct, ev_bin, ev_neg, ev_cmp, ev_chn, ev_isN, ev_notN, ev_and, ev_or, ev_not, ev_ite, ev_idx, ev_sli, ev_call, ev_b1, ev_b2, ev_mt, ev_isi, putM1, isOwnL, kept, setL, appM, parM, evAnd, evOr, evs, evT, eva, evi, evo, evk, callM, argsIn, muts, nodupN, outsIn, strong, isRd, opd, fin1, fin2, fin3, need, Vi.R.bind, Vi.O.get, isiT, tru, cmpT, idxT, atx, ixn, outsOf, getVar, rdVar, setVar, Vi.own, fz, testM, b1T, b2T, mtT, binT, negT, isNf, isNonT, inT, flat, eqb, asg, asgs, dat, dats, eqbs, List.range_succ, d_need_row, k]
theorem t_need_three (n : Nat) (W : List Int) (R : List Nat) (k s : List Nat) (num : Int) (no : T) (hW : WOk W) (hR : ROk W R) (hl : R.length ≤ 40) (h : KOk k s no) (h1 : 1 ≤ num) (h2 : num ≤ 5) : prog.tab (n + 4) 17 [tupI W, wishT k s num no, .str R] = .ret .non [none, none, none] := by
  rw [tabs (n + 3) 17 d_need_three _ rfl]
  have k1 := t_need_worths n W hW
  have k2 := t_need_wish n k s num no h h1 h2
  have k3 := t_need_row (n + 1) W R hR hW hl
  unfold tupI at k1 k3 ⊢
  unfold wishT at k2 ⊢
  simp [Def.run, exs_nil, exs_cons, ex_asg, ex_asgT, ex_par, ex_exp, ex_ifs, ex_ret, ex_retv, ex_put, ex_app, ev_var, ev_rd, ev_cst, ev_glo, ev_tup, ev_lst, ev_dct, ev_bin, ev_neg, ev_cmp, ev_chn, ev_isN, ev_notN, ev_and, ev_or, ev_not, ev_ite, ev_idx, ev_sli, ev_call, ev_b1, ev_b2, ev_mt, ev_isi, putM1, isOwnL, kept, setL, appM, parM, evAnd, evOr, evs, evT, eva, evi, evo, evk, callM, argsIn, muts, nodupN, outsIn, strong, isRd, opd, fin1, fin2, fin3, need, Vi.R.bind, Vi.O.get, isiT, tru, cmpT, idxT, atx, ixn, outsOf, getVar, rdVar, setVar, Vi.own, fz, testM, b1T, b2T, mtT, binT, negT, isNf, isNonT, inT, flat, eqb, asg, asgs, dat, dats, eqbs, List.range_succ, d_need_three, k1, k2, k3]
theorem t_right_answer (n : Nat) (W : List Int) (R : List Nat) (k s : List Nat) (num : Int) (no : T) (hW : WOk W) (hR : ROk W R) (hl : R.length ≤ 40) (h : KOk k s no) (h1 : 1 ≤ num) (h2 : num ≤ 5) : prog.tab (n + 6) 18 [tupI W, wishT k s num no, .str R] = .ret (ansT no (answerOf W k s num R)) [none, none, none] := by
  rw [tabs (n + 5) 18 d_right_answer _ rfl]
  have k1 := t_need_three (n + 1) W R k s num no hW hR hl h h1 h2
  have k2 := t_answer_for n W R k s num no hR (by omega) (by omega) h.und
  generalize ansT no (answerOf W k s num R) = r at k2 ⊢
  unfold tupI wishT at k1 k2 ⊢
  simp [Def.run, exs_nil, exs_cons, ex_asg, ex_asgT, ex_par, ex_exp, ex_ifs, ex_ret, ex_retv, ex_put, ex_app, ev_var, ev_rd, ev_cst, ev_glo, ev_tup, ev_lst, ev_dct, ev_bin, ev_neg, ev_cmp, ev_chn, ev_isN, ev_notN, ev_and, ev_or, ev_not, ev_ite, ev_idx, ev_sli, ev_call, ev_b1, ev_b2, ev_mt, ev_isi, putM1, isOwnL, kept, setL, appM, parM, evAnd, evOr, evs, evT, eva, evi, evo, evk, callM, argsIn, muts, nodupN, outsIn, strong, isRd, opd, fin1, fin2, fin3, need, Vi.R.bind, Vi.O.get, isiT, tru, cmpT, idxT, atx, ixn, outsOf, getVar, rdVar, setVar, Vi.own, fz, testM, b1T, b2T, mtT, binT, negT, isNf, isNonT, inT, flat, eqb, asg, asgs, dat, dats, eqbs, List.range_succ, d_right_answer, k1, k2]
end ViLaw

set_option maxRecDepth 100000
set_option maxHeartbeats 1000000
set_option linter.all false
namespace ViLaw
open Vi
/-- the windows of a row of n letters -/
def pairs (n : Nat) : List (Nat × Nat) := (List.range n).flatMap fun i => (List.range (n - i)).map fun j => (i, i + 1 + j)
def pairT (p : Nat × Nat) : T := .tup [.int (p.1 : Nat), .int (p.2 : Nat)]
def sub (R : List Nat) (p : Nat × Nat) : List Nat := (R.drop p.1).take (p.2 - p.1)
theorem mem_pairs {n : Nat} {p : Nat × Nat} (h : p ∈ pairs n) : p.1 < p.2 ∧ p.2 ≤ n := by
  obtain ⟨i, hi, h⟩ := List.mem_flatMap.mp h
  obtain ⟨j, hj, rfl⟩ := List.mem_map.mp h
  have hj : j < n - i := by simpa using hj
  exact ⟨by show i < i + 1 + j; omega, by show i + 1 + j ≤ n; omega⟩
theorem cut_sub (R : List Nat) (p : Nat × Nat) (h : p.1 < p.2 ∧ p.2 ≤ R.length) : cut R (some ((p.1 : Nat) : Int)) (some ((p.2 : Nat) : Int)) = sub R p := by
  unfold cut six sub
  have e1 : (if ((p.1 : Nat) : Int) < 0 then max (((p.1 : Nat) : Int) + (R.length : Int)) 0 else min ((p.1 : Nat) : Int) (R.length : Int)).toNat = p.1 := by
    rw [if_neg (by omega)]; omega
  have e2 : (if ((p.2 : Nat) : Int) < 0 then max (((p.2 : Nat) : Int) + (R.length : Int)) 0 else min ((p.2 : Nat) : Int) (R.length : Int)).toNat = p.2 := by
    rw [if_neg (by omega)]; omega
  simp only [e1, e2]
theorem s62 {i : Int} (h : 0 ≤ i) (h2 : i ≤ 1000000) : small62 i = true := by
  unfold small62; rw [Bool.and_eq_true, decide_eq_true_eq, decide_eq_true_eq]; omega
def fx (m : Nat) : T → List T := fun x => match x with
  | .int i => (upto (i + 1) ((m : Int) + 1)).map fun y => .tup [x, y]
  | _ => []
theorem rows_eq (m : Nat) : (upto 0 (m : Int)).flatMap (fx m) = (pairs m).map pairT := by
  unfold upto pairs
  rw [List.flatMap_map, List.map_flatMap]
  simp only [Int.sub_zero, Int.toNat_natCast]
  congr 1
  funext i
  show List.map (fun y => T.tup [.int (0 + (i : Int)), y]) (List.map (fun j : Nat => T.int (0 + (i : Int) + 1 + (j : Int))) (List.range ((m : Int) + 1 - (0 + (i : Int) + 1)).toNat)) = _
  rw [List.map_map, List.map_map]
  have e : ((m : Int) + 1 - (0 + (i : Int) + 1)).toNat = m - i := by omega
  show List.map _ (List.range ((m : Int) + 1 - (0 + (i : Int) + 1)).toNat) = _
  rw [e]
  apply List.map_congr_left
  intro j _
  show T.tup [.int (0 + (i : Int)), .int (0 + (i : Int) + 1 + (j : Int))] = T.tup [.int ((i : Nat) : Int), .int ((i + 1 + j : Nat) : Int)]
  have e1 : (0 + (i : Int)) = ((i : Nat) : Int) := by omega
  have e2 : (0 + (i : Int) + 1 + (j : Int)) = ((i + 1 + j : Nat) : Int) := by omega
  rw [e1] at e2 ⊢
  rw [e2]
theorem pairs_len (n : Nat) (h : n ≤ 40) : (pairs n).length ≤ 1600 := by
  unfold pairs
  rw [List.length_flatMap]
  have aux : ∀ (l : List Nat), ((l.map fun i => ((List.range (n - i)).map fun j => (i, i + 1 + j)).length).sum) ≤ l.length * n := by
    intro l
    induction l with
    | nil => simp
    | cons a r ih =>
      simp only [List.map_cons, List.sum_cons, List.length_map, List.length_range, List.length_cons] at ih ⊢
      rw [Nat.add_mul, Nat.one_mul]
      omega
  have := aux (List.range n)
  rw [List.length_range] at this
  have h2 : n * n ≤ 40 * 40 := Nat.mul_le_mul h h
  omega
theorem fit_rows (n : Nat) (W : List Int) (R : List Nat) (wi : T) (hl : R.length ≤ 40) : ev (Cfg.mk gl (prog.tab n)) (.lc2 (.tup (.cons (.var 4) (.cons (.var 5) .nil))) (.nm 4) (.rng (.b1 .len (.rd 2))) .nil (.nm 5) (.rng2 (.bin .add (.rd 4) (.cst (.int 1))) (.bin .add (.b1 .len (.rd 2)) (.cst (.int 1)))) .nil [4, 5] [5])
    [some (tupI W), some wi, some (.str R), none, none, none] = .ok (.lst true ((pairs R.length).map pairT)) [some (tupI W), some wi, some (.str R), none, none, none] := by
  have h1 : R.length ≤ line := by show _ ≤ 16777216; omega
  have hlen : ∀ y3 y4 y5, ev (Cfg.mk gl (prog.tab n)) (.b1 .len (.rd 2)) [some (tupI W), some wi, some (.str R), y3, y4, y5] = .ok (.int R.length) [some (tupI W), some wi, some (.str R), y3, y4, y5] := fun y3 y4 y5 => by
    show need (if R.length ≤ line then some (T.int R.length) else none) _ = _
    rw [if_pos h1]; rfl
  have e := rows_eq R.length
  have hpl := pairs_len R.length hl
  have key := ev_lc2g (c := Cfg.mk gl (prog.tab n)) (elt := .tup (.cons (.var 4) (.cons (.var 5) .nil))) (tg := .nm 4) (tg2 := .nm 5) (it2 := .rng2 (.bin .add (.rd 4) (.cst (.int 1))) (.bin .add (.b1 .len (.rd 2)) (.cst (.int 1)))) (ifs := .nil) (ifs2 := .nil) (own := [4, 5]) (own2 := [5]) (fx R.length) (evi_rng rfl (hlen none none none) (rngT_ok (by decide) (s62 (by omega) (by omega)))) rfl (by rw [e, List.length_map]; show _ ≤ 16777216; omega) (fun x hx acc hacc => by
    unfold upto at hx
    obtain ⟨i, hi, rfl⟩ := List.mem_map.mp hx
    have hi2 : i < R.length := by simpa using hi
    have hi3 : evi (Cfg.mk gl (prog.tab n)) (.rng2 (.bin .add (.rd 4) (.cst (.int 1))) (.bin .add (.b1 .len (.rd 2)) (.cst (.int 1)))) [some (tupI W), some wi, some (.str R), none, some (.int (0 + (i : Int))), none] = .ok (upto (0 + (i : Int) + 1) ((R.length : Int) + 1)) [some (tupI W), some wi, some (.str R), none, some (.int (0 + (i : Int))), none] := by
      refine evi_rng2 (t := .int (0 + (i : Int) + 1)) (u := .int ((R.length : Int) + 1)) rfl rfl rfl ?_ (rngT_ok (s62 (by omega) (by omega)) (s62 (by omega) (by omega)))
      show (((ev _ (.b1 .len (.rd 2)) _).bind fun t e => Vi.R.ok (O.v t) e).bind fun o e => _) = _
      rw [hlen]
      rfl
    obtain ⟨e1, h3, h4⟩ := turns_fm (own := [5]) (body := fun x e => (asg (.nm 5) x e).bind fun _ e => (evT (Cfg.mk gl (prog.tab n)) .nil e).bind fun b e => if b then (strong (isRd (.tup (.cons (.var 4) (.cons (.var 5) .nil)))) (ev (Cfg.mk gl (prog.tab n)) (.tup (.cons (.var 4) (.cons (.var 5) .nil)))) e).bind fun t e => .ok (some (fz t)) e else .ok none e)
      (g := fun y => some (.tup [.int (0 + (i : Int)), y])) (upto (0 + (i : Int) + 1) ((R.length : Int) + 1)) acc [some (tupI W), some wi, some (.str R), none, some (.int (0 + (i : Int))), none] (fun y hy => by
        unfold upto at hy
        obtain ⟨j, hj, rfl⟩ := List.mem_map.mp hy
        exact ⟨[some (tupI W), some wi, some (.str R), none, some (.int (0 + (i : Int))), some (.int (0 + (i : Int) + 1 + (j : Int)))], rfl, rfl⟩) (by
        have : (fx R.length (.int (0 + (i : Int)))).length = (upto (0 + (i : Int) + 1) ((R.length : Int) + 1)).length := by unfold fx; rw [List.length_map]
        rw [this] at hacc
        exact hacc)
    refine ⟨e1, ?_, ?_⟩
    · show ((evi (Cfg.mk gl (prog.tab n)) (.rng2 (.bin .add (.rd 4) (.cst (.int 1))) (.bin .add (.b1 .len (.rd 2)) (.cst (.int 1)))) [some (tupI W), some wi, some (.str R), none, some (.int (0 + (i : Int))), none]).bind fun l2 e => turns [5] _ l2 acc e) = _
      rw [hi3]
      refine Eq.trans h3 ?_
      rw [List.filterMap_eq_map']
      rfl
    · have : wipe e1 [4, 5] = wipe (wipe e1 [5]) [4, 5] := (wipeE_sub (own := [4, 5]) (own2 := [5]) (by simp)).symm
      rw [this, h4]
      rfl)
  rw [e] at key
  exact key
end ViLaw

set_option maxRecDepth 100000
set_option maxHeartbeats 1000000
set_option linter.all false
namespace ViLaw
open Vi
/-- the windows that fit -/
def wins (W : List Int) (s : List Nat) (num : Int) (R : List Nat) : List (Nat × Nat) := (pairs R.length).filter fun p => fitB W s num (sub R p)
theorem ROk.window {W : List Int} {R : List Nat} (h : ROk W R) (p : Nat × Nat) : ROk W (ViLaw.sub R p) := fun c hc => h c (List.mem_of_mem_drop (List.mem_of_mem_take hc))
theorem sub_len (R : List Nat) (p : Nat × Nat) : (sub R p).length ≤ R.length := by
  unfold sub
  rw [List.length_take, List.length_drop]
  omega
def fp (W : List Int) (s : List Nat) (num : Int) (R : List Nat) : T → Option T := fun x => match x with
  | .tup [.int i, .int j] => if fitB W s num (sub R (i.toNat, j.toNat)) then some (.tup [.int i, .int j]) else none
  | _ => none
theorem fp_eq (W : List Int) (s : List Nat) (num : Int) (R : List Nat) : ((pairs R.length).map pairT).filterMap (fp W s num R) = (wins W s num R).map pairT := by
  unfold wins
  induction pairs R.length with
  | nil => rfl
  | cons p r ih =>
    rw [List.map_cons, List.filterMap_cons, List.filter_cons]
    have e : fp W s num R (pairT p) = if fitB W s num (sub R p) then some (pairT p) else none := rfl
    rw [e]
    cases fitB W s num (sub R p)
    · simpa using ih
    · simp only [if_true, List.map_cons]
      rw [ih]
theorem fit_wins (n : Nat) (W : List Int) (R : List Nat) (k s : List Nat) (num : Int) (no : T) (hR : ROk W R) (hl : R.length ≤ 40) : ev (Cfg.mk gl (prog.tab (n + 3))) (.lc (.tup (.cons (.var 4) (.cons (.var 5) .nil))) (.tp (.cons (.nm 4) (.cons (.nm 5) .nil))) (.of (.var 3)) (.cons (.call 10 (.val (.var 0) (.val (.var 1) (.val (.sli (.rd 2) (.som (.var 4)) (.som (.var 5))) .nil)))) .nil) [4, 5])
    [some (tupI W), some (wishT k s num no), some (.str R), some (.lst true ((pairs R.length).map pairT)), none, none] = .ok (.lst true ((wins W s num R).map pairT)) [some (tupI W), some (wishT k s num no), some (.str R), some (.lst false ((pairs R.length).map pairT)), none, none] := by
  have hpl := pairs_len R.length hl
  have key := ev_lcg (c := Cfg.mk gl (prog.tab (n + 3))) (elt := .tup (.cons (.var 4) (.cons (.var 5) .nil))) (tg := .tp (.cons (.nm 4) (.cons (.nm 5) .nil))) (it := .of (.var 3)) (ifs := .cons (.call 10 (.val (.var 0) (.val (.var 1) (.val (.sli (.rd 2) (.som (.var 4)) (.som (.var 5))) .nil)))) .nil) (own := [4, 5])
    (e := [some (tupI W), some (wishT k s num no), some (.str R), some (.lst true ((pairs R.length).map pairT)), none, none]) (e0 := [some (tupI W), some (wishT k s num no), some (.str R), some (.lst false ((pairs R.length).map pairT)), none, none]) (l := (pairs R.length).map pairT) (fp W s num R) rfl rfl rfl (by rw [List.length_map]; show _ ≤ 16777216; omega) (fun x hx => by
      obtain ⟨p, hp, rfl⟩ := List.mem_map.mp hx
      have hp2 := mem_pairs hp
      have f1 := t_fits n W (sub R p) k s num no (hR.window p) (by have := sub_len R p; omega)
      have h3 := cut_sub R p hp2
      have e : fp W s num R (pairT p) = if fitB W s num (sub R p) then some (pairT p) else none := rfl
      refine ⟨[some (tupI W), some (wishT k s num no), some (.str R), some (.lst false ((pairs R.length).map pairT)), some (.int ((p.1 : Nat) : Int)), some (.int ((p.2 : Nat) : Int))], ?_, rfl⟩
      rw [e]
      generalize (pairs R.length).map pairT = PL
      unfold tupI wishT at f1 ⊢
      cases hf : fitB W s num (sub R p)
      · rw [hf] at f1
        simp [Def.run, exs_nil, exs_cons, ex_asg, ex_asgT, ex_par, ex_exp, ex_ifs, ex_ret, ex_retv, ex_put, ex_app, ev_var, ev_rd, ev_cst, ev_glo, ev_tup, ev_lst, ev_dct, ev_bin, ev_neg, ev_cmp, ev_chn, ev_isN, ev_notN, ev_and, ev_or, ev_not, ev_ite, ev_idx, ev_sli, ev_call, ev_b1, ev_b2, ev_mt, ev_isi, putM1, isOwnL, kept, setL, appM, parM, evAnd, evOr, evs, evT, eva, evi, evo, evk, callM, argsIn, muts, nodupN, outsIn, strong, isRd, opd, fin1, fin2, fin3, need, Vi.R.bind, Vi.O.get, isiT, tru, cmpT, idxT, atx, ixn, outsOf, getVar, rdVar, setVar, Vi.own, fz, testM, b1T, b2T, mtT, binT, negT, isNf, isNonT, inT, flat, eqb, asg, asgs, dat, dats, eqbs, List.range_succ, wipe, pairT, sliT, h3, f1]
      · rw [hf] at f1
        simp [Def.run, exs_nil, exs_cons, ex_asg, ex_asgT, ex_par, ex_exp, ex_ifs, ex_ret, ex_retv, ex_put, ex_app, ev_var, ev_rd, ev_cst, ev_glo, ev_tup, ev_lst, ev_dct, ev_bin, ev_neg, ev_cmp, ev_chn, ev_isN, ev_notN, ev_and, ev_or, ev_not, ev_ite, ev_idx, ev_sli, ev_call, ev_b1, ev_b2, ev_mt, ev_isi, putM1, isOwnL, kept, setL, appM, parM, evAnd, evOr, evs, evT, eva, evi, evo, evk, callM, argsIn, muts, nodupN, outsIn, strong, isRd, opd, fin1, fin2, fin3, need, Vi.R.bind, Vi.O.get, isiT, tru, cmpT, idxT, atx, ixn, outsOf, getVar, rdVar, setVar, Vi.own, fz, testM, b1T, b2T, mtT, binT, negT, isNf, isNonT, inT, flat, eqb, asg, asgs, dat, dats, eqbs, List.range_succ, wipe, pairT, sliT, h3, f1])
  rw [fp_eq] at key
  exact key
theorem t_fitting (n : Nat) (W : List Int) (R : List Nat) (k s : List Nat) (num : Int) (no : T) (hW : WOk W) (hR : ROk W R) (hl : R.length ≤ 40) (h : KOk k s no) (h1 : 1 ≤ num) (h2 : num ≤ 5) : prog.tab (n + 5) 19 [tupI W, wishT k s num no, .str R] = .ret (.lst true ((wins W s num R).map pairT)) [none, none, none] := by
  rw [tabs (n + 4) 19 d_fitting _ rfl]
  have k1 := t_need_three n W R k s num no hW hR hl h h1 h2
  have k2 := fit_rows (n + 4) W R (wishT k s num no) hl
  have k3 := fit_wins (n + 1) W R k s num no hR hl
  have e1 : ex (Cfg.mk gl (prog.tab (n + 4))) (.exp (.call 17 (.val (.var 0) (.val (.var 1) (.val (.var 2) .nil))))) [some (tupI W), some (wishT k s num no), some (.str R), none, none, none] = .ok .nx [some (tupI W), some (wishT k s num no), some (.str R), none, none, none] := by
    unfold tupI wishT at k1 ⊢
    simp [Def.run, exs_nil, exs_cons, ex_asg, ex_asgT, ex_par, ex_exp, ex_ifs, ex_ret, ex_retv, ex_put, ex_app, ev_var, ev_rd, ev_cst, ev_glo, ev_tup, ev_lst, ev_dct, ev_bin, ev_neg, ev_cmp, ev_chn, ev_isN, ev_notN, ev_and, ev_or, ev_not, ev_ite, ev_idx, ev_sli, ev_call, ev_b1, ev_b2, ev_mt, ev_isi, putM1, isOwnL, kept, setL, appM, parM, evAnd, evOr, evs, evT, eva, evi, evo, evk, callM, argsIn, muts, nodupN, outsIn, strong, isRd, opd, fin1, fin2, fin3, need, Vi.R.bind, Vi.O.get, isiT, tru, cmpT, idxT, atx, ixn, outsOf, getVar, rdVar, setVar, Vi.own, fz, testM, b1T, b2T, mtT, binT, negT, isNf, isNonT, inT, flat, eqb, asg, asgs, dat, dats, eqbs, List.range_succ, k1]
  have e2 : ex (Cfg.mk gl (prog.tab (n + 4))) (.asg 3 (.lc2 (.tup (.cons (.var 4) (.cons (.var 5) .nil))) (.nm 4) (.rng (.b1 .len (.rd 2))) .nil (.nm 5) (.rng2 (.bin .add (.rd 4) (.cst (.int 1))) (.bin .add (.b1 .len (.rd 2)) (.cst (.int 1)))) .nil [4, 5] [5])) [some (tupI W), some (wishT k s num no), some (.str R), none, none, none] = .ok .nx [some (tupI W), some (wishT k s num no), some (.str R), some (.lst true ((pairs R.length).map pairT)), none, none] := by
    rw [ex_asg]
    show ((ev _ _ _).bind _) = _
    rw [k2]
    rfl
  have e3 : exs (Cfg.mk gl (prog.tab (n + 4))) d_fitting.body [some (tupI W), some (wishT k s num no), some (.str R), none, none, none] = .ok (.ret (.lst true ((wins W s num R).map pairT))) [some (tupI W), some (wishT k s num no), some (.str R), some (.lst false ((pairs R.length).map pairT)), none, none] :=
    exs_nx e1 (exs_nx e2 (exs_ret (ret_of rfl k3)))
  rw [run_ret rfl e3]
  rfl
end ViLaw

set_option maxRecDepth 100000
set_option maxHeartbeats 1000000
set_option linter.all false
namespace ViLaw
open Vi
/-! ### the law's draws -/
def srcT (p : Int × Int) : T := .lst true [.int p.1, .int p.2]
def nextB (b : Int) : Int := b * 48271 % 2147483647
def drawV (p : Int × Int) (m : Int) : Int := if 0 < p.1 then p.1 % m else nextB p.2 * nextB p.2 % 2147483629 / 64 % m
def drawS (p : Int × Int) (m : Int) : Int × Int := if 0 < p.1 then (p.1 / m, p.2) else (p.1, nextB p.2)
theorem drawV_lt (p : Int × Int) (m : Int) (h : 0 < m) : 0 ≤ drawV p m ∧ drawV p m < m := by
  unfold drawV
  split
  · exact ⟨Int.emod_nonneg _ (by omega), Int.emod_lt_of_pos _ h⟩
  · exact ⟨Int.emod_nonneg _ (by omega), Int.emod_lt_of_pos _ h⟩
theorem in64_next (b : Int) : in64 (nextB b) = true := by
  unfold in64 nextB
  have h1 := Int.emod_nonneg (b * 48271) (b := 2147483647) (by omega)
  have h2 := Int.emod_lt_of_pos (b * 48271) (b := 2147483647) (by omega)
  rw [Bool.and_eq_true, decide_eq_true_eq, decide_eq_true_eq]
  omega
theorem in64_c : in64 48271 = true := by decide
theorem t_draw (n : Nat) (p : Int × Int) (m : Int) (h : 0 < m) (h2 : m < 1073741824) : prog.tab (n + 1) 21 [srcT p, .int m] = .ret (.int (drawV p m)) [some (srcT (drawS p m)), none] := by
  obtain ⟨a, b⟩ := p
  rw [tabs n 21 l_draw _ rfl]
  by_cases ha : 0 < a
  · simp [Def.run, exs_nil, exs_cons, ex_asg, ex_asgT, ex_par, ex_exp, ex_ifs, ex_ret, ex_retv, ex_put, ex_app, ev_var, ev_rd, ev_cst, ev_glo, ev_tup, ev_lst, ev_dct, ev_bin, ev_neg, ev_cmp, ev_chn, ev_isN, ev_notN, ev_and, ev_or, ev_not, ev_ite, ev_idx, ev_sli, ev_call, ev_b1, ev_b2, ev_mt, ev_isi, putM1, isOwnL, kept, setL, appM, parM, evAnd, evOr, evs, evT, eva, evi, evo, evk, callM, argsIn, muts, nodupN, outsIn, strong, isRd, opd, fin1, fin2, fin3, need, Vi.R.bind, Vi.O.get, isiT, tru, cmpT, idxT, atx, ixn, outsOf, getVar, rdVar, setVar, Vi.own, fz, testM, b1T, b2T, mtT, binT, negT, isNf, isNonT, inT, flat, eqb, asg, asgs, dat, dats, eqbs, List.range_succ, l_draw, srcT, drawV, drawS, ha, h, h2]
  · have e1 := in64_c
    have e2 := in64_next b
    unfold nextB at e2
    simp [Def.run, exs_nil, exs_cons, ex_asg, ex_asgT, ex_par, ex_exp, ex_ifs, ex_ret, ex_retv, ex_put, ex_app, ev_var, ev_rd, ev_cst, ev_glo, ev_tup, ev_lst, ev_dct, ev_bin, ev_neg, ev_cmp, ev_chn, ev_isN, ev_notN, ev_and, ev_or, ev_not, ev_ite, ev_idx, ev_sli, ev_call, ev_b1, ev_b2, ev_mt, ev_isi, putM1, isOwnL, kept, setL, appM, parM, evAnd, evOr, evs, evT, eva, evi, evo, evk, callM, argsIn, muts, nodupN, outsIn, strong, isRd, opd, fin1, fin2, fin3, need, Vi.R.bind, Vi.O.get, isiT, tru, cmpT, idxT, atx, ixn, outsOf, getVar, rdVar, setVar, Vi.own, fz, testM, b1T, b2T, mtT, binT, negT, isNf, isNonT, inT, flat, eqb, asg, asgs, dat, dats, eqbs, List.range_succ, l_draw, srcT, drawV, drawS, nextB, ha, h, h2, e1, e2]
end ViLaw

set_option maxRecDepth 100000
set_option maxHeartbeats 1000000
set_option linter.all false
namespace ViLaw
open Vi
def intsT (ns : List Int) : T := .lst false (ns.map .int)
def srcOf (cell k : Int) : Int × Int := if cell < 10 ^ 18 then (0, 1 + (cell * 7919 + 104729 * k) % 2147483646) else (cell, 1 + (cell + k) % 2147483646)
theorem i64a : in64 7919 = true := by decide
theorem i64b : in64 104729 = true := by decide
theorem src_end (c : Cfg) (sc : T) (k cell : Int) : exs c (.cons (.ifs (.cmp .lt (.rd 2) (.bin .pow (.cst (.int 10)) (.cst (.int 18)))) (.cons (.ret (.lst (.cons (.cst (.int 0)) (.cons (.bin .add (.cst (.int 1)) (.bin .mod (.b1 .int (.bin .add (.bin .mul (.rd 2) (.cst (.int 7919))) (.bin .mul (.cst (.int 104729)) (.rd 1)))) (.cst (.int 2147483646)))) .nil)))) .nil) .nil) (.cons (.ret (.lst (.cons (.var 2) (.cons (.bin .add (.cst (.int 1)) (.bin .mod (.b1 .int (.bin .add (.rd 2) (.rd 1))) (.cst (.int 2147483646)))) .nil)))) .nil)) [some sc, some (.int k), some (.int cell)] =
    .ok (.ret (srcT (srcOf cell k))) [some sc, some (.int k), some (.int cell)] := by
  have e1 := i64a
  have e2 := i64b
  by_cases h : cell < 10 ^ 18
  · have h' : cell < 1000000000000000000 := by omega
    simp [Def.run, exs_nil, exs_cons, ex_asg, ex_asgT, ex_par, ex_exp, ex_ifs, ex_ret, ex_retv, ex_put, ex_app, ev_var, ev_rd, ev_cst, ev_glo, ev_tup, ev_lst, ev_dct, ev_bin, ev_neg, ev_cmp, ev_chn, ev_isN, ev_notN, ev_and, ev_or, ev_not, ev_ite, ev_idx, ev_sli, ev_call, ev_b1, ev_b2, ev_mt, ev_isi, putM1, isOwnL, kept, setL, appM, parM, evAnd, evOr, evs, evT, eva, evi, evo, evk, callM, argsIn, muts, nodupN, outsIn, strong, isRd, opd, fin1, fin2, fin3, need, Vi.R.bind, Vi.O.get, isiT, tru, cmpT, idxT, atx, ixn, outsOf, getVar, rdVar, setVar, Vi.own, fz, testM, b1T, b2T, mtT, binT, negT, isNf, isNonT, inT, flat, eqb, asg, asgs, dat, dats, eqbs, List.range_succ, srcT, srcOf, h, h', e1, e2]
  · have h' : ¬ cell < 1000000000000000000 := by omega
    simp [Def.run, exs_nil, exs_cons, ex_asg, ex_asgT, ex_par, ex_exp, ex_ifs, ex_ret, ex_retv, ex_put, ex_app, ev_var, ev_rd, ev_cst, ev_glo, ev_tup, ev_lst, ev_dct, ev_bin, ev_neg, ev_cmp, ev_chn, ev_isN, ev_notN, ev_and, ev_or, ev_not, ev_ite, ev_idx, ev_sli, ev_call, ev_b1, ev_b2, ev_mt, ev_isi, putM1, isOwnL, kept, setL, appM, parM, evAnd, evOr, evs, evT, eva, evi, evo, evk, callM, argsIn, muts, nodupN, outsIn, strong, isRd, opd, fin1, fin2, fin3, need, Vi.R.bind, Vi.O.get, isiT, tru, cmpT, idxT, atx, ixn, outsOf, getVar, rdVar, setVar, Vi.own, fz, testM, b1T, b2T, mtT, binT, negT, isNf, isNonT, inT, flat, eqb, asg, asgs, dat, dats, eqbs, List.range_succ, srcT, srcOf, h, h', e1, e2]
def cellOf (ns : List Int) (k : Nat) : Int := match ns[k]? with
  | some i => if i < 0 then -i else i
  | none => 0
theorem t_source (n : Nat) (ns : List Int) (k : Nat) (hl : ns.length ≤ 63) : prog.tab (n + 1) 20 [intsT ns, .int (k : Nat)] = .ret (srcT (srcOf (cellOf ns k) k)) [none, none] := by
  rw [tabs n 20 l_source _ rfl]
  have b0 : ns.length ≤ line := by show _ ≤ 16777216; omega
  have e1 : ex (Cfg.mk gl (prog.tab n)) (.asg 2 (.cst (.int 0))) [some (intsT ns), some (.int (k : Nat)), none] = .ok .nx [some (intsT ns), some (.int (k : Nat)), some (.int 0)] := rfl
  have e2 : ex (Cfg.mk gl (prog.tab n)) (.ifs (.cmp .lt (.rd 1) (.b1 .len (.rd 0))) (.cons (.asg 2 (.b1 .abs (.b1 .int (.idx (.rd 0) (.rd 1))))) .nil) .nil) [some (intsT ns), some (.int (k : Nat)), some (.int 0)] = .ok .nx [some (intsT ns), some (.int (k : Nat)), some (.int (cellOf ns k))] := by
    unfold intsT
    by_cases h : k < ns.length
    · have h1 : ((k : Nat) : Int) < ns.length := by omega
      have h2 : ns[k]? = some ns[k] := List.getElem?_eq_getElem h
      simp [Def.run, exs_nil, exs_cons, ex_asg, ex_asgT, ex_par, ex_exp, ex_ifs, ex_ret, ex_retv, ex_put, ex_app, ev_var, ev_rd, ev_cst, ev_glo, ev_tup, ev_lst, ev_dct, ev_bin, ev_neg, ev_cmp, ev_chn, ev_isN, ev_notN, ev_and, ev_or, ev_not, ev_ite, ev_idx, ev_sli, ev_call, ev_b1, ev_b2, ev_mt, ev_isi, putM1, isOwnL, kept, setL, appM, parM, evAnd, evOr, evs, evT, eva, evi, evo, evk, callM, argsIn, muts, nodupN, outsIn, strong, isRd, opd, fin1, fin2, fin3, need, Vi.R.bind, Vi.O.get, isiT, tru, cmpT, idxT, atx, ixn, outsOf, getVar, rdVar, setVar, Vi.own, fz, testM, b1T, b2T, mtT, binT, negT, isNf, isNonT, inT, flat, eqb, asg, asgs, dat, dats, eqbs, List.range_succ, h1, h2, cellOf]
    · have h1 : ¬ ((k : Nat) : Int) < ns.length := by omega
      have h2 : ns[k]? = none := List.getElem?_eq_none (by omega)
      simp [Def.run, exs_nil, exs_cons, ex_asg, ex_asgT, ex_par, ex_exp, ex_ifs, ex_ret, ex_retv, ex_put, ex_app, ev_var, ev_rd, ev_cst, ev_glo, ev_tup, ev_lst, ev_dct, ev_bin, ev_neg, ev_cmp, ev_chn, ev_isN, ev_notN, ev_and, ev_or, ev_not, ev_ite, ev_idx, ev_sli, ev_call, ev_b1, ev_b2, ev_mt, ev_isi, putM1, isOwnL, kept, setL, appM, parM, evAnd, evOr, evs, evT, eva, evi, evo, evk, callM, argsIn, muts, nodupN, outsIn, strong, isRd, opd, fin1, fin2, fin3, need, Vi.R.bind, Vi.O.get, isiT, tru, cmpT, idxT, atx, ixn, outsOf, getVar, rdVar, setVar, Vi.own, fz, testM, b1T, b2T, mtT, binT, negT, isNf, isNonT, inT, flat, eqb, asg, asgs, dat, dats, eqbs, List.range_succ, h1, h2, cellOf]
  rw [run_ret rfl (exs_nx e1 (exs_nx e2 (src_end _ _ _ _)))]
  rfl
end ViLaw

set_option maxRecDepth 100000
set_option maxHeartbeats 1000000
set_option linter.all false
namespace ViLaw
open Vi
def pick (l : List T) (p : Int × Int) : T := (l[(drawV p l.length).toNat]?).getD .und
theorem t_of (n : Nat) (p : Int × Int) (l : List T) (h : 0 < l.length) (h2 : l.length ≤ 1000) : prog.tab (n + 2) 22 [srcT p, .lst false l] = .ret (pick l p) [some (srcT (drawS p l.length)), none] := by
  rw [tabs (n + 1) 22 l_of _ rfl]
  have k := t_draw n p l.length (by omega) (by omega)
  obtain ⟨d1, d2⟩ := drawV_lt p l.length (by omega)
  have b0 : l.length ≤ line := by show _ ≤ 16777216; omega
  have hx : (drawV p l.length).toNat < l.length := by omega
  have e : pick l p = l[(drawV p l.length).toNat] := by
    unfold pick
    rw [List.getElem?_eq_getElem hx]
    rfl
  rw [e]
  have e2 : l[(drawV p l.length).toNat]? = some l[(drawV p l.length).toNat] := List.getElem?_eq_getElem hx
  generalize l[(drawV p l.length).toNat] = r at e2 ⊢
  generalize drawV p l.length = d at k d1 d2 e2 ⊢
  generalize hq : drawS p l.length = q at k ⊢
  unfold srcT at k ⊢
  simp [Def.run, exs_nil, exs_cons, ex_asg, ex_asgT, ex_par, ex_exp, ex_ifs, ex_ret, ex_retv, ex_put, ex_app, ev_var, ev_rd, ev_cst, ev_glo, ev_tup, ev_lst, ev_dct, ev_bin, ev_neg, ev_cmp, ev_chn, ev_isN, ev_notN, ev_and, ev_or, ev_not, ev_ite, ev_idx, ev_sli, ev_call, ev_b1, ev_b2, ev_mt, ev_isi, putM1, isOwnL, kept, setL, appM, parM, evAnd, evOr, evs, evT, eva, evi, evo, evk, callM, argsIn, muts, nodupN, outsIn, strong, isRd, opd, fin1, fin2, fin3, need, Vi.R.bind, Vi.O.get, isiT, tru, cmpT, idxT, atx, ixn, outsOf, getVar, rdVar, setVar, Vi.own, fz, testM, b1T, b2T, mtT, binT, negT, isNf, isNonT, inT, flat, eqb, asg, asgs, dat, dats, eqbs, List.range_succ, l_of, k, d1, d2, e2]
  exact (List.getElem?_eq_some_iff.mp e2).2
end ViLaw

set_option maxRecDepth 100000
set_option maxHeartbeats 1000000
set_option linter.all false
namespace ViLaw
open Vi
def gW : T → Int × Int → T := fun _ p => .int (1 + drawV p 3)
def sW : T → Int × Int → Int × Int := fun _ p => drawS p 3
def worthsOf (p : Int × Int) : List T × (Int × Int) := runF gW sW (upto 0 (1 + drawV p 3)) (drawS p 3)
theorem small_draw (p : Int × Int) : small62 (1 + drawV p 3) = true := by
  have := drawV_lt p 3 (by omega)
  exact s62 (by omega) (by omega)
theorem t_worths (n : Nat) (p : Int × Int) : prog.tab (n + 2) 23 [srcT p] = .ret (.tup (worthsOf p).1) [some (srcT (worthsOf p).2)] := by
  rw [tabs (n + 1) 23 l_worths _ rfl]
  have hd := drawV_lt p 3 (by omega)
  have hi : evi (Cfg.mk gl (prog.tab (n + 1))) (.rng (.bin .add (.cst (.int 1)) (.call 21 (.mut 0 (.val (.cst (.int 3)) .nil))))) [some (srcT p), none] = .ok (upto 0 (1 + drawV p 3)) [some (srcT (drawS p 3)), none] := by
    refine evi_rng (t := .int (1 + drawV p 3)) rfl ?_ (rngT_ok (by decide) (small_draw p))
    have k := t_draw n p 3 (by omega) (by omega)
    generalize drawV p 3 = d at k ⊢
    generalize drawS p 3 = q at k ⊢
    unfold srcT at k ⊢
    simp [Def.run, exs_nil, exs_cons, ex_asg, ex_asgT, ex_par, ex_exp, ex_ifs, ex_ret, ex_retv, ex_put, ex_app, ev_var, ev_rd, ev_cst, ev_glo, ev_tup, ev_lst, ev_dct, ev_bin, ev_neg, ev_cmp, ev_chn, ev_isN, ev_notN, ev_and, ev_or, ev_not, ev_ite, ev_idx, ev_sli, ev_call, ev_b1, ev_b2, ev_mt, ev_isi, putM1, isOwnL, kept, setL, appM, parM, evAnd, evOr, evs, evT, eva, evi, evo, evk, callM, argsIn, muts, nodupN, outsIn, strong, isRd, opd, fin1, fin2, fin3, need, Vi.R.bind, Vi.O.get, isiT, tru, cmpT, idxT, atx, ixn, outsOf, getVar, rdVar, setVar, Vi.own, fz, testM, b1T, b2T, mtT, binT, negT, isNf, isNonT, inT, flat, eqb, asg, asgs, dat, dats, eqbs, List.range_succ, k]
  have key := ev_lcf (c := Cfg.mk gl (prog.tab (n + 1))) (elt := .bin .add (.cst (.int 1)) (.call 21 (.mut 0 (.val (.cst (.int 3)) .nil)))) (tg := .nm 1) (ifs := .nil) (own := [1]) (fun q : Int × Int => [some (srcT q), none]) gW sW (drawS p 3) hi rfl rfl rfl (by unfold upto; rw [List.length_map, List.length_range]; show _ ≤ 16777216; omega) (fun x hx q => by
    refine ⟨[some (srcT (drawS q 3)), some x], ?_, rfl⟩
    have k := t_draw n q 3 (by omega) (by omega)
    unfold gW
    generalize drawV q 3 = d at k ⊢
    generalize drawS q 3 = r at k ⊢
    unfold srcT at k ⊢
    simp [Def.run, exs_nil, exs_cons, ex_asg, ex_asgT, ex_par, ex_exp, ex_ifs, ex_ret, ex_retv, ex_put, ex_app, ev_var, ev_rd, ev_cst, ev_glo, ev_tup, ev_lst, ev_dct, ev_bin, ev_neg, ev_cmp, ev_chn, ev_isN, ev_notN, ev_and, ev_or, ev_not, ev_ite, ev_idx, ev_sli, ev_call, ev_b1, ev_b2, ev_mt, ev_isi, putM1, isOwnL, kept, setL, appM, parM, evAnd, evOr, evs, evT, eva, evi, evo, evk, callM, argsIn, muts, nodupN, outsIn, strong, isRd, opd, fin1, fin2, fin3, need, Vi.R.bind, Vi.O.get, isiT, tru, cmpT, idxT, atx, ixn, outsOf, getVar, rdVar, setVar, Vi.own, fz, testM, b1T, b2T, mtT, binT, negT, isNf, isNonT, inT, flat, eqb, asg, asgs, dat, dats, eqbs, List.range_succ, wipe, k])
  have e3 : exs (Cfg.mk gl (prog.tab (n + 1))) l_worths.body [some (srcT p), none] = .ok (.ret (.tup (worthsOf p).1)) [some (srcT (worthsOf p).2), none] := by
    refine exs_ret (ret_of rfl ?_)
    show (((ev _ _ _).bind fun t e => R.ok (O.v t) e).bind fun o e => fin1 o (b1T .tuple) e) = _
    rw [key]
    rfl
  rw [run_ret rfl e3]
  rfl
end ViLaw

set_option maxRecDepth 100000
set_option maxHeartbeats 1000000
set_option linter.all false
namespace ViLaw
open Vi
def gR (m : Int) : T → Int × Int → T := fun _ p => .str [97 + (drawV p m).toNat]
def sR (m : Int) : T → Int × Int → Int × Int := fun _ p => drawS p m
def rowOf (p : Int × Int) (m : Int) : List T × (Int × Int) := runF (gR m) (sR m) (upto 0 (drawV p 17)) (drawS p 17)
theorem abc_at (d : Int) (h : 0 ≤ d) (h2 : d < 3) : atx [97, 98, 99] d = some (97 + d.toNat) := by
  have : d = 0 ∨ d = 1 ∨ d = 2 := by omega
  rcases this with rfl | rfl | rfl <;> rfl
theorem row_comp (n : Nat) (p : Int × Int) (l : List T) (h : 1 ≤ l.length) (h2 : l.length ≤ 3) : ev (Cfg.mk gl (prog.tab (n + 1))) (.lc (.idx (.cst (.str [97, 98, 99])) (.call 21 (.mut 0 (.val (.b1 .len (.rd 1)) .nil)))) (.nm 3) (.rng (.call 21 (.mut 0 (.val (.bin .add (.rd 2) (.cst (.int 1))) .nil)))) .nil [3])
    [some (srcT p), some (.tup l), some (.int 16), none] = .ok (.lst true (rowOf p l.length).1) [some (srcT (rowOf p l.length).2), some (.tup l), some (.int 16), none] := by
  have hd := drawV_lt p 17 (by omega)
  have hi : evi (Cfg.mk gl (prog.tab (n + 1))) (.rng (.call 21 (.mut 0 (.val (.bin .add (.rd 2) (.cst (.int 1))) .nil)))) [some (srcT p), some (.tup l), some (.int 16), none] = .ok (upto 0 (drawV p 17)) [some (srcT (drawS p 17)), some (.tup l), some (.int 16), none] := by
    refine evi_rng (t := .int (drawV p 17)) rfl ?_ (rngT_ok (by decide) (s62 (by omega) (by omega)))
    have k := t_draw n p 17 (by omega) (by omega)
    generalize drawV p 17 = d at k ⊢
    generalize drawS p 17 = q at k ⊢
    unfold srcT at k ⊢
    simp [Def.run, exs_nil, exs_cons, ex_asg, ex_asgT, ex_par, ex_exp, ex_ifs, ex_ret, ex_retv, ex_put, ex_app, ev_var, ev_rd, ev_cst, ev_glo, ev_tup, ev_lst, ev_dct, ev_bin, ev_neg, ev_cmp, ev_chn, ev_isN, ev_notN, ev_and, ev_or, ev_not, ev_ite, ev_idx, ev_sli, ev_call, ev_b1, ev_b2, ev_mt, ev_isi, putM1, isOwnL, kept, setL, appM, parM, evAnd, evOr, evs, evT, eva, evi, evo, evk, callM, argsIn, muts, nodupN, outsIn, strong, isRd, opd, fin1, fin2, fin3, need, Vi.R.bind, Vi.O.get, isiT, tru, cmpT, idxT, atx, ixn, outsOf, getVar, rdVar, setVar, Vi.own, fz, testM, b1T, b2T, mtT, binT, negT, isNf, isNonT, inT, flat, eqb, asg, asgs, dat, dats, eqbs, List.range_succ, k]
  have key := ev_lcf (c := Cfg.mk gl (prog.tab (n + 1))) (elt := .idx (.cst (.str [97, 98, 99])) (.call 21 (.mut 0 (.val (.b1 .len (.rd 1)) .nil)))) (tg := .nm 3) (ifs := .nil) (own := [3]) (fun q : Int × Int => [some (srcT q), some (.tup l), some (.int 16), none]) (gR l.length) (sR l.length) (drawS p 17) hi rfl rfl rfl (by unfold upto; rw [List.length_map, List.length_range]; show _ ≤ 16777216; omega) (fun x hx q => by
    refine ⟨[some (srcT (drawS q l.length)), some (.tup l), some (.int 16), some x], ?_, rfl⟩
    have k := t_draw n q l.length (by omega) (by omega)
    obtain ⟨d1, d2⟩ := drawV_lt q l.length (by omega)
    have d3 : drawV q l.length < 3 := by omega
    unfold gR
    generalize drawV q l.length = d at k d1 d3 ⊢
    generalize drawS q l.length = r at k ⊢
    unfold srcT at k ⊢
    simp [Def.run, exs_nil, exs_cons, ex_asg, ex_asgT, ex_par, ex_exp, ex_ifs, ex_ret, ex_retv, ex_put, ex_app, ev_var, ev_rd, ev_cst, ev_glo, ev_tup, ev_lst, ev_dct, ev_bin, ev_neg, ev_cmp, ev_chn, ev_isN, ev_notN, ev_and, ev_or, ev_not, ev_ite, ev_idx, ev_sli, ev_call, ev_b1, ev_b2, ev_mt, ev_isi, putM1, isOwnL, kept, setL, appM, parM, evAnd, evOr, evs, evT, eva, evi, evo, evk, callM, argsIn, muts, nodupN, outsIn, strong, isRd, opd, fin1, fin2, fin3, need, Vi.R.bind, Vi.O.get, isiT, tru, cmpT, idxT, atx, ixn, outsOf, getVar, rdVar, setVar, Vi.own, fz, testM, b1T, b2T, mtT, binT, negT, isNf, isNonT, inT, flat, eqb, asg, asgs, dat, dats, eqbs, List.range_succ, wipe, k]
    have hd3 : d = 0 ∨ d = 1 ∨ d = 2 := by omega
    rcases hd3 with rfl | rfl | rfl <;> rfl)
  rw [key]
  rfl
end ViLaw

set_option maxRecDepth 100000
set_option maxHeartbeats 1000000
set_option linter.all false
namespace ViLaw
open Vi
/-- the letters drawn -/
def runN (m : Int) (l : List T) (p : Int × Int) : List Nat × (Int × Int) := l.foldl (fun (q : List Nat × (Int × Int)) _ => (q.1 ++ [97 + (drawV q.2 m).toNat], drawS q.2 m)) ([], p)
theorem runF_row (m : Int) : ∀ (l : List T) (a : List Nat) (p : Int × Int), l.foldl (fun (q : List T × (Int × Int)) x => (q.1 ++ [gR m x q.2], sR m x q.2)) (a.map fun c => T.str [c], p) = (((l.foldl (fun (q : List Nat × (Int × Int)) _ => (q.1 ++ [97 + (drawV q.2 m).toNat], drawS q.2 m)) (a, p)).1).map fun c => T.str [c], (l.foldl (fun (q : List Nat × (Int × Int)) _ => (q.1 ++ [97 + (drawV q.2 m).toNat], drawS q.2 m)) (a, p)).2)
  | [], a, p => rfl
  | x :: l, a, p => by
    rw [List.foldl_cons, List.foldl_cons]
    have := runF_row m l (a ++ [97 + (drawV p m).toNat]) (drawS p m)
    rw [List.map_append] at this
    exact this
def rowN (p : Int × Int) (m : Int) : List Nat × (Int × Int) := runN m (upto 0 (drawV p 17)) (drawS p 17)
theorem rowOf_eq (p : Int × Int) (m : Int) : rowOf p m = ((rowN p m).1.map fun c => T.str [c], (rowN p m).2) := runF_row m (upto 0 (drawV p 17)) [] (drawS p 17)
theorem strs_one : ∀ R : List Nat, strs? (R.map fun c => T.str [c]) = some (R.map fun c => [c])
  | [] => rfl
  | c :: R => by
    show (strs? (R.map fun c => T.str [c])).map ([c] :: ·) = _
    rw [strs_one R]; rfl
theorem join_one : ∀ R : List Nat, joinS [] (R.map fun c => [c]) = R
  | [] => rfl
  | [c] => rfl
  | c :: d :: R => by
    show [c] ++ [] ++ joinS [] ((d :: R).map fun c => [c]) = _
    rw [join_one (d :: R)]; rfl
theorem sum_one : ∀ R : List Nat, ((R.map fun c => [c]).map List.length).sum = R.length
  | [] => rfl
  | c :: R => by
    simp only [List.map_cons, List.sum_cons, List.length_cons, List.length_nil]
    have := sum_one R
    simp only [List.map_map] at this ⊢
    omega
theorem runN_len (m : Int) : ∀ (l : List T) (a : List Nat) (p : Int × Int), (l.foldl (fun (q : List Nat × (Int × Int)) _ => (q.1 ++ [97 + (drawV q.2 m).toNat], drawS q.2 m)) (a, p)).1.length = a.length + l.length
  | [], a, p => by simp
  | x :: l, a, p => by
    rw [List.foldl_cons, runN_len m l]
    simp
    omega
theorem rowN_len (p : Int × Int) (m : Int) : (rowN p m).1.length ≤ 16 := by
  have hd := drawV_lt p 17 (by omega)
  have := runN_len m (upto 0 (drawV p 17)) [] (drawS p 17)
  have e : (rowN p m).1.length = 0 + (upto 0 (drawV p 17)).length := this
  rw [e]
  unfold upto
  rw [List.length_map, List.length_range]
  omega
theorem t_row (n : Nat) (p : Int × Int) (l : List T) (h : 1 ≤ l.length) (h2 : l.length ≤ 3) : prog.tab (n + 2) 24 [srcT p, .tup l, .int 16] = .ret (.str (rowN p l.length).1) [some (srcT (rowN p l.length).2), none, none] := by
  rw [tabs (n + 1) 24 l_row _ rfl]
  have key := row_comp n p l h h2
  rw [rowOf_eq] at key
  have hl := rowN_len p l.length
  have e3 : exs (Cfg.mk gl (prog.tab (n + 1))) l_row.body [some (srcT p), some (.tup l), some (.int 16), none] = .ok (.ret (.str (rowN p l.length).1)) [some (srcT (rowN p l.length).2), some (.tup l), some (.int 16), none] := by
    refine exs_ret (ret_of rfl ?_)
    show (((ev _ _ _).bind fun t e => R.ok (O.v t) e).bind fun o e => fin1 o (mtT .join []) e) = _
    rw [key]
    show need ((strs? ((rowN p l.length).1.map fun c => T.str [c])).bind fun ss => if (ss.map List.length).sum + ss.length * 0 ≤ line then some (T.str (joinS [] ss)) else none) _ = _
    rw [strs_one]
    show need (if (((rowN p l.length).1.map fun c => [c]).map List.length).sum + ((rowN p l.length).1.map fun c => [c]).length * 0 ≤ line then some (T.str (joinS [] ((rowN p l.length).1.map fun c => [c]))) else none) _ = _
    rw [sum_one, join_one, if_pos (by rw [Nat.mul_zero]; show _ ≤ 16777216; omega)]
    rfl
  rw [run_ret rfl e3]
  rfl
end ViLaw

set_option maxRecDepth 100000
set_option maxHeartbeats 1000000
set_option linter.all false
namespace ViLaw
open Vi
theorem ev_call_of {c : Cfg} {f : Nat} {as : As} {e e1 : Env} {l : List (T ⊕ Nat)} {ts : List T} {t : T} {outs : List (Option T)} (h : eva c as e = .ok l e1) (h2 : argsIn l e1 = some ts) (h3 : nodupN (muts l) = true) (h4 : c.call f ts = .ret t outs) : ev c (.call f as) e = .ok t (outsIn l outs e1) := by
  show (eva c as e).bind (fun l e => callM c f l e) = _
  rw [h]
  show callM c f l e1 = _
  unfold callM
  rw [h2]
  simp only [h3, h4, if_true]
theorem asg_of {c : Cfg} {i : Nat} {a : E} {e e1 e2 : Env} {t : T} (hr : isRd a = none) (h : ev c a e = .ok t e1) (h2 : setVar i t e1 = .ok () e2) : ex c (.asg i a) e = .ok .nx e2 := by
  show ((strong (isRd a) (ev c a) e).bind fun t e => (setVar i t e).bind fun _ e => R.ok Fl.nx e) = _
  rw [hr]
  show ((ev c a e).bind fun t e => (setVar i t e).bind fun _ e => R.ok Fl.nx e) = _
  rw [h]
  show ((setVar i t e1).bind fun _ e => R.ok Fl.nx e) = _
  rw [h2]
  rfl
theorem of_mem (n : Nat) (p : Int × Int) (l : List T) (h : 0 < l.length) (h2 : l.length ≤ 1000) : ∃ x q, x ∈ l ∧ prog.tab (n + 2) 22 [srcT p, .lst false l] = .ret x [some (srcT q), none] := by
  refine ⟨pick l p, drawS p l.length, ?_, t_of n p l h h2⟩
  obtain ⟨d1, d2⟩ := drawV_lt p l.length (by omega)
  have hx : (drawV p l.length).toNat < l.length := by omega
  unfold pick
  rw [List.getElem?_eq_getElem hx]
  exact List.getElem_mem hx
theorem ite_t {c : Cfg} {q a b : E} {e e1 : Env} {r : R T} (hq : isRd q = none) (h : ev c q e = .ok (.bl true) e1) (ha : isRd a = none) (h2 : ev c a e1 = r) : ev c (.ite q a b) e = r := by
  show ((opd (isRd q) (ev c q) e).bind fun o e => (fin1 o (fun t => (tru t).map .bl) e).bind fun t e => match t with
    | .bl true => strong (isRd a) (ev c a) e
    | .bl false => strong (isRd b) (ev c b) e
    | _ => .no) = _
  rw [hq]
  show (((ev c q e).bind fun t e => R.ok (O.v t) e).bind _) = _
  rw [h]
  show strong (isRd a) (ev c a) e1 = _
  rw [ha]
  exact h2
theorem ite_f {c : Cfg} {q a b : E} {e e1 : Env} {r : R T} (hq : isRd q = none) (h : ev c q e = .ok (.bl false) e1) (hb : isRd b = none) (h2 : ev c b e1 = r) : ev c (.ite q a b) e = r := by
  show ((opd (isRd q) (ev c q) e).bind fun o e => (fin1 o (fun t => (tru t).map .bl) e).bind fun t e => match t with
    | .bl true => strong (isRd a) (ev c a) e
    | .bl false => strong (isRd b) (ev c b) e
    | _ => .no) = _
  rw [hq]
  show (((ev c q e).bind fun t e => R.ok (O.v t) e).bind _) = _
  rw [h]
  show strong (isRd b) (ev c b) e1 = _
  rw [hb]
  exact h2
theorem tup_of {c : Cfg} {es : Es} {e e1 : Env} {l : List T} (h : evs c es e = .ok l e1) : ev c (.tup es) e = .ok (.tup l) e1 := by
  show ((evs c es e).bind fun l e => R.ok (T.tup l) e) = _
  rw [h]; rfl
theorem evs_cons {c : Cfg} {a : E} {es : Es} {e e1 e2 : Env} {t : T} {l : List T} (hr : isRd a = none) (h : ev c a e = .ok t e1) (h2 : evs c es e1 = .ok l e2) : evs c (.cons a es) e = .ok (fz t :: l) e2 := by
  show ((strong (isRd a) (ev c a) e).bind fun t e => (evs c es e).bind fun l e => R.ok (fz t :: l) e) = _
  rw [hr]
  show ((ev c a e).bind _) = _
  rw [h]
  show ((evs c es e1).bind _) = _
  rw [h2]; rfl
theorem t_num (n : Nat) (p : Int × Int) : ∃ num q, (1 : Int) ≤ num ∧ num ≤ 5 ∧ prog.tab (n + 2) 22 [srcT p, .lst false [.int 1, .int 2, .int 3, .int 2, .int 4, .int 3, .int 5]] = .ret (.int num) [some (srcT q), none] := by
  obtain ⟨y, q4, hy, k4⟩ := of_mem n p [.int 1, .int 2, .int 3, .int 2, .int 4, .int 3, .int 5] (by decide) (by decide)
  have hy : ∃ num : Int, y = .int num ∧ 1 ≤ num ∧ num ≤ 5 := by
    simp only [List.mem_cons, List.not_mem_nil, or_false] at hy
    rcases hy with rfl | rfl | rfl | rfl | rfl | rfl | rfl <;> exact ⟨_, rfl, by decide, by decide⟩
  obtain ⟨num, rfl, h1, h2⟩ := hy
  exact ⟨num, q4, h1, h2, k4⟩
theorem t_sign (n : Nat) (p : Int × Int) (a b : List Nat) : ∃ s q, (s = a ∨ s = b) ∧ prog.tab (n + 2) 22 [srcT p, .lst false [.str a, .str b]] = .ret (.str s) [some (srcT q), none] := by
  obtain ⟨y, q4, hy, k4⟩ := of_mem n p [.str a, .str b] (by show 0 < 2; decide) (by show 2 ≤ 1000; decide)
  simp only [List.mem_cons, List.not_mem_nil, or_false] at hy
  rcases hy with rfl | rfl
  · exact ⟨a, q4, .inl rfl, k4⟩
  · exact ⟨b, q4, .inr rfl, k4⟩
theorem t_sign1 (n : Nat) (p : Int × Int) (a : List Nat) : ∃ q, prog.tab (n + 2) 22 [srcT p, .lst false [.str a]] = .ret (.str a) [some (srcT q), none] := by
  obtain ⟨y, q4, hy, k4⟩ := of_mem n p [.str a] (by show 0 < 1; decide) (by show 1 ≤ 1000; decide)
  simp only [List.mem_cons, List.not_mem_nil, or_false] at hy
  subst hy
  exact ⟨q4, k4⟩
theorem t_none (n : Nat) (p : Int × Int) : ∃ x q, (x = .non ∨ x = .int 0 ∨ x = .int (-1)) ∧ prog.tab (n + 2) 22 [srcT p, .lst false [.non, .int 0, .int (-1)]] = .ret x [some (srcT q), none] := by
  obtain ⟨y, q4, hy, k4⟩ := of_mem n p [.non, .int 0, .int (-1)] (by decide) (by decide)
  simp only [List.mem_cons, List.not_mem_nil, or_false] at hy
  exact ⟨y, q4, hy, k4⟩
theorem t_wish (n : Nat) (p : Int × Int) : ∃ k s num no q, KOk k s no ∧ 1 ≤ num ∧ num ≤ 5 ∧ prog.tab (n + 3) 25 [srcT p, .str []] = .ret (wishT k s num no) [some (srcT q), none] := by
  obtain ⟨x, q1, hx, k1⟩ := of_mem n p [.str kLong, .str kShort, .str kNum, .str kGreat, .str kSmall] (by decide) (by decide)
  simp only [List.mem_cons, List.not_mem_nil, or_false] at hx
  rw [tabs (n + 2) 25 l_wish _ rfl]
  rcases hx with rfl | rfl | rfl | rfl | rfl
  · obtain ⟨s, q2, hs, k2⟩ := t_sign n q1 sMost sJust
    obtain ⟨no, q3, hno, k3⟩ := t_none n q2
    obtain ⟨num, q4, h1, h2, k4⟩ := t_num n q3
    refine ⟨kLong, s, num, no, q4, .inl ⟨rfl, hs, hno⟩, h1, h2, ?_⟩
    rcases hno with rfl | rfl | rfl
    all_goals
      refine Eq.trans (run_ret (d := l_wish) rfl (exs_nx rfl (exs_nx (asg_of rfl (ite_f rfl rfl rfl (ev_call_of rfl rfl rfl k1)) rfl) (exs_nx rfl (exs_nx (asg_of rfl (ev_call_of rfl rfl rfl k2) rfl) (exs_nx (asg_of rfl (ite_t rfl rfl rfl (ev_call_of rfl rfl rfl k3)) rfl) (exs_ret (ret_of rfl (tup_of (evs_cons rfl rfl (evs_cons rfl rfl (evs_cons rfl (ev_call_of rfl rfl rfl k4) (evs_cons rfl rfl rfl))))))))))))) ?_
      rfl
  · obtain ⟨s, q2, hs, k2⟩ := t_sign n q1 sLeast sJust
    obtain ⟨num, q4, h1, h2, k4⟩ := t_num n q2
    refine ⟨kShort, s, num, .non, q4, .inr (.inl ⟨rfl, hs, rfl⟩), h1, h2, ?_⟩
    refine Eq.trans (run_ret (d := l_wish) rfl (exs_nx rfl (exs_nx (asg_of rfl (ite_f rfl rfl rfl (ev_call_of rfl rfl rfl k1)) rfl) (exs_nx rfl (exs_nx (asg_of rfl (ev_call_of rfl rfl rfl k2) rfl) (exs_nx (asg_of rfl (ite_f rfl rfl rfl rfl) rfl) (exs_ret (ret_of rfl (tup_of (evs_cons rfl rfl (evs_cons rfl rfl (evs_cons rfl (ev_call_of rfl rfl rfl k4) (evs_cons rfl rfl rfl))))))))))))) ?_
    rfl
  · obtain ⟨s, q2, hs, k2⟩ := t_sign n q1 sMost sJust
    obtain ⟨num, q4, h1, h2, k4⟩ := t_num n q2
    refine ⟨kNum, s, num, .int 0, q4, .inr (.inr (.inl ⟨rfl, hs, rfl⟩)), h1, h2, ?_⟩
    refine Eq.trans (run_ret (d := l_wish) rfl (exs_nx rfl (exs_nx (asg_of rfl (ite_f rfl rfl rfl (ev_call_of rfl rfl rfl k1)) rfl) (exs_nx rfl (exs_nx (asg_of rfl (ev_call_of rfl rfl rfl k2) rfl) (exs_nx (asg_of rfl (ite_f rfl rfl rfl rfl) rfl) (exs_ret (ret_of rfl (tup_of (evs_cons rfl rfl (evs_cons rfl rfl (evs_cons rfl (ev_call_of rfl rfl rfl k4) (evs_cons rfl rfl rfl))))))))))))) ?_
    rfl
  · obtain ⟨q2, k2⟩ := t_sign1 n q1 sSize
    obtain ⟨no, q3, hno, k3⟩ := t_none n q2
    obtain ⟨num, q4, h1, h2, k4⟩ := t_num n q3
    refine ⟨kGreat, sSize, num, no, q4, .inr (.inr (.inr (.inl ⟨rfl, rfl, hno⟩))), h1, h2, ?_⟩
    rcases hno with rfl | rfl | rfl
    all_goals
      refine Eq.trans (run_ret (d := l_wish) rfl (exs_nx rfl (exs_nx (asg_of rfl (ite_f rfl rfl rfl (ev_call_of rfl rfl rfl k1)) rfl) (exs_nx rfl (exs_nx (asg_of rfl (ev_call_of rfl rfl rfl k2) rfl) (exs_nx (asg_of rfl (ite_t rfl rfl rfl (ev_call_of rfl rfl rfl k3)) rfl) (exs_ret (ret_of rfl (tup_of (evs_cons rfl rfl (evs_cons rfl rfl (evs_cons rfl (ev_call_of rfl rfl rfl k4) (evs_cons rfl rfl rfl))))))))))))) ?_
      rfl
  · obtain ⟨q2, k2⟩ := t_sign1 n q1 sSize
    obtain ⟨num, q4, h1, h2, k4⟩ := t_num n q2
    refine ⟨kSmall, sSize, num, .non, q4, .inr (.inr (.inr (.inr ⟨rfl, rfl, rfl⟩))), h1, h2, ?_⟩
    refine Eq.trans (run_ret (d := l_wish) rfl (exs_nx rfl (exs_nx (asg_of rfl (ite_f rfl rfl rfl (ev_call_of rfl rfl rfl k1)) rfl) (exs_nx rfl (exs_nx (asg_of rfl (ev_call_of rfl rfl rfl k2) rfl) (exs_nx (asg_of rfl (ite_f rfl rfl rfl rfl) rfl) (exs_ret (ret_of rfl (tup_of (evs_cons rfl rfl (evs_cons rfl rfl (evs_cons rfl (ev_call_of rfl rfl rfl k4) (evs_cons rfl rfl rfl))))))))))))) ?_
    rfl
end ViLaw

set_option maxRecDepth 100000
set_option maxHeartbeats 1000000
set_option linter.all false
namespace ViLaw
open Vi
def sumE : E := .b1 .sum (.lc (.idx (.rd 0) (.mt .index (.cst (.str [97, 98, 99])) (.rd 13))) (.nm 13) (.of (.sli (.rd 2) (.som (.var 3)) (.som (.var 10)))) .nil [13])
def condE : E := .or (.cons (.cmp .eq (.rd 12) (.rd 6)) (.cons (.and (.cons (.cmp .eq (.rd 5) (.cst (.str [109, 111, 115, 116]))) (.cons (.cmp .lt (.rd 12) (.rd 6)) .nil))) (.cons (.and (.cons (.cmp .eq (.rd 5) (.cst (.str [108, 101, 97, 115, 116]))) (.cons (.cmp .gt (.rd 12) (.rd 6)) .nil))) .nil)))
def hereE : E := .ite (.cmp .eq (.rd 5) (.cst (.str [115, 105, 122, 101]))) (.bin .sub (.rd 10) (.rd 3)) (.var 11)
def noteS : Ss := (.cons (.app 8 (.tup (.cons (.var 3) (.cons (.var 10) .nil)))) (.cons (.app 9 (.ite (.cmp .eq (.rd 5) (.cst (.str [115, 105, 122, 101]))) (.var 11) (.bin .sub (.rd 10) (.rd 3)))) .nil))
def inB : Ss := .cons (.asg 11 sumE) (.cons (.asg 12 hereE) (.cons (.ifs condE noteS .nil) .nil))
def outB : Ss := .cons (.for (.nm 10) (.rng2 (.bin .add (.rd 3) (.cst (.int 1))) (.bin .add (.b1 .len (.rd 2)) (.cst (.int 1)))) inB) .nil
def amtL (W : List Int) (s : List Nat) (R : List Nat) (p : Nat × Nat) : Int := if s = sSize then total W (sub R p) else (p.2 : Int) - (p.1 : Int)
def beEnv (W : List Int) (k s : List Nat) (num : Int) (no : T) (R : List Nat) (F : List (Nat × Nat)) (x3 x10 x11 x12 x13 : Option T) : Env :=
  [some (tupI W), some (wishT k s num no), some (.str R), x3, some (.str k), some (.str s), some (.int num), some no, some (.lst true (F.map pairT)), some (.lst true ((F.map (amtL W s R)).map .int)), x10, x11, x12, x13]
theorem sum_ev (c : Cfg) (W : List Int) (k s : List Nat) (num : Int) (no : T) (R : List Nat) (F : List (Nat × Nat)) (x11 x12 : Option T) (p : Nat × Nat) (hR : ROk W R) (hl : R.length ≤ 40) (h : p.1 < p.2 ∧ p.2 ≤ R.length) :
    ev c sumE (beEnv W k s num no R F (some (.int (p.1 : Nat))) (some (.int (p.2 : Nat))) x11 x12 none) = .ok (.int (total W (sub R p))) (beEnv W k s num no R F (some (.int (p.1 : Nat))) (some (.int (p.2 : Nat))) x11 x12 none) := by
  have h3 := cut_sub R p h
  have key := ev_lc (c := c) (elt := .idx (.rd 0) (.mt .index (.cst (.str [97, 98, 99])) (.rd 13))) (tg := .nm 13) (it := .of (.sli (.rd 2) (.som (.var 3)) (.som (.var 10)))) (own := [13]) (e := beEnv W k s num no R F (some (.int (p.1 : Nat))) (some (.int (p.2 : Nat))) x11 x12 none) (l := (sub R p).map fun c => .str [c])
    (g := fun x => match x with | .str [c] => .int (val W c) | t => t) (by
      unfold beEnv
      simp [Def.run, exs_nil, exs_cons, ex_asg, ex_asgT, ex_par, ex_exp, ex_ifs, ex_ret, ex_retv, ex_put, ex_app, ev_var, ev_rd, ev_cst, ev_glo, ev_tup, ev_lst, ev_dct, ev_bin, ev_neg, ev_cmp, ev_chn, ev_isN, ev_notN, ev_and, ev_or, ev_not, ev_ite, ev_idx, ev_sli, ev_call, ev_b1, ev_b2, ev_mt, ev_isi, putM1, isOwnL, kept, setL, appM, parM, evAnd, evOr, evs, evT, eva, evi, evo, evk, callM, argsIn, muts, nodupN, outsIn, strong, isRd, opd, fin1, fin2, fin3, need, Vi.R.bind, Vi.O.get, isiT, tru, cmpT, idxT, atx, ixn, outsOf, getVar, rdVar, setVar, Vi.own, fz, testM, b1T, b2T, mtT, binT, negT, isNf, isNonT, inT, flat, eqb, asg, asgs, dat, dats, eqbs, List.range_succ, sliT, h3, walk?]) rfl rfl (by rw [List.length_map]; have := sub_len R p; show _ ≤ 16777216; omega) (fun x hx => by
      obtain ⟨c', hc, rfl⟩ := List.mem_map.mp hx
      refine ⟨beEnv W k s num no R F (some (.int (p.1 : Nat))) (some (.int (p.2 : Nat))) x11 x12 (some (.str [c'])), ?_, rfl⟩
      have hc2 := hR.window p c' hc
      have e := idx_let ⟨hc2.1, hc2.2.2⟩
      have e2 : W[c' - 97]? = some (val W c') := by
        rw [List.getElem?_eq_getElem hc2.2.1]
        simp [val, List.getD_eq_getElem?_getD, List.getElem?_eq_getElem hc2.2.1]
      have e3 : ((c' - 97 : Nat) : Int) < (W.length : Int) := by have := hc2.2.1; omega
      unfold lets at e
      unfold beEnv tupI
      simp [Def.run, exs_nil, exs_cons, ex_asg, ex_asgT, ex_par, ex_exp, ex_ifs, ex_ret, ex_retv, ex_put, ex_app, ev_var, ev_rd, ev_cst, ev_glo, ev_tup, ev_lst, ev_dct, ev_bin, ev_neg, ev_cmp, ev_chn, ev_isN, ev_notN, ev_and, ev_or, ev_not, ev_ite, ev_idx, ev_sli, ev_call, ev_b1, ev_b2, ev_mt, ev_isi, putM1, isOwnL, kept, setL, appM, parM, evAnd, evOr, evs, evT, eva, evi, evo, evk, callM, argsIn, muts, nodupN, outsIn, strong, isRd, opd, fin1, fin2, fin3, need, Vi.R.bind, Vi.O.get, isiT, tru, cmpT, idxT, atx, ixn, outsOf, getVar, rdVar, setVar, Vi.own, fz, testM, b1T, b2T, mtT, binT, negT, isNf, isNonT, inT, flat, eqb, asg, asgs, dat, dats, eqbs, List.range_succ, wipe, e, e2, e3, Int.toNat_natCast])
  have e : (((sub R p).map fun c => T.str [c]).map fun x => fz (match x with | .str [c] => .int (val W c) | t => t)) = ((sub R p).map (val W)).map .int := by
    rw [List.map_map, List.map_map]; rfl
  rw [e] at key
  show ((ev c _ _).bind fun t e => Vi.R.ok (O.v t) e).bind (fun o e => fin1 o (b1T .sum) e) = _
  rw [key]
  show need ((ints? (((sub R p).map (val W)).map .int)).map fun is => T.int is.sum) _ = _
  rw [ints_map]
  rfl
theorem sub_length (R : List Nat) (p : Nat × Nat) (h : p.1 < p.2 ∧ p.2 ≤ R.length) : (sub R p).length = p.2 - p.1 := by
  unfold sub
  rw [List.length_take, List.length_drop]
  omega
def SOk (s : List Nat) : Prop := s = sSize ∨ s = sMost ∨ s = sLeast ∨ s = sJust
theorem in_step (c : Cfg) (W : List Int) (k s : List Nat) (num : Int) (no : T) (R : List Nat) (F : List (Nat × Nat)) (x11 x12 : Option T) (p : Nat × Nat) (hR : ROk W R) (hl : R.length ≤ 40) (h : p.1 < p.2 ∧ p.2 ≤ R.length) (hs : SOk s) (hF : F.length ≤ 2000) :
    ∃ y11 y12, exs c inB (beEnv W k s num no R F (some (.int (p.1 : Nat))) (some (.int (p.2 : Nat))) x11 x12 none) = .ok .nx (beEnv W k s num no R (F ++ if fitB W s num (sub R p) then [p] else []) (some (.int (p.1 : Nat))) (some (.int (p.2 : Nat))) y11 y12 none) := by
  have h1 : ex c (.asg 11 sumE) (beEnv W k s num no R F (some (.int (p.1 : Nat))) (some (.int (p.2 : Nat))) x11 x12 none) = .ok .nx (beEnv W k s num no R F (some (.int (p.1 : Nat))) (some (.int (p.2 : Nat))) (some (.int (total W (sub R p)))) x12 none) :=
    asg_of rfl (sum_ev c W k s num no R F x11 x12 p hR hl h) rfl
  have hl2 := sub_length R p h
  have hlen : F.length < 16777216 := by omega
  have hw : ((p.2 : Int) - (p.1 : Int) = num) ↔ (((sub R p).length : Int) = num) := by rw [hl2]; omega
  generalize hto : total W (sub R p) = t at h1
  rcases hs with rfl | rfl | rfl | rfl
  · have h2 : ex c (.asg 12 hereE) (beEnv W k sSize num no R F (some (.int (p.1 : Nat))) (some (.int (p.2 : Nat))) (some (.int t)) x12 none) = .ok .nx (beEnv W k sSize num no R F (some (.int (p.1 : Nat))) (some (.int (p.2 : Nat))) (some (.int t)) (some (.int ((p.2 : Int) - (p.1 : Int)))) none) := rfl
    refine ⟨some (.int t), some (.int ((p.2 : Int) - (p.1 : Int))), exs_nx h1 (exs_nx h2 (exs_nx ?_ rfl))⟩
    by_cases q : (p.2 : Int) - (p.1 : Int) = num
    · have q2 := hw.mp q
      unfold beEnv
      simp [Def.run, exs_nil, exs_cons, ex_asg, ex_asgT, ex_par, ex_exp, ex_ifs, ex_ret, ex_retv, ex_put, ex_app, ev_var, ev_rd, ev_cst, ev_glo, ev_tup, ev_lst, ev_dct, ev_bin, ev_neg, ev_cmp, ev_chn, ev_isN, ev_notN, ev_and, ev_or, ev_not, ev_ite, ev_idx, ev_sli, ev_call, ev_b1, ev_b2, ev_mt, ev_isi, putM1, isOwnL, kept, setL, appM, parM, evAnd, evOr, evs, evT, eva, evi, evo, evk, callM, argsIn, muts, nodupN, outsIn, strong, isRd, opd, fin1, fin2, fin3, need, Vi.R.bind, Vi.O.get, isiT, tru, cmpT, idxT, atx, ixn, outsOf, getVar, rdVar, setVar, Vi.own, fz, testM, b1T, b2T, mtT, binT, negT, isNf, isNonT, inT, flat, eqb, asg, asgs, dat, dats, eqbs, List.range_succ, condE, noteS, sSize, q, q2, fitB, amtL, pairT, hlen, hto]
    · have q2 : ¬ (((sub R p).length : Int) = num) := fun z => q (hw.mpr z)
      have b : ((p.2 : Int) - (p.1 : Int) == num) = false := by simp [q]
      unfold beEnv
      simp [Def.run, exs_nil, exs_cons, ex_asg, ex_asgT, ex_par, ex_exp, ex_ifs, ex_ret, ex_retv, ex_put, ex_app, ev_var, ev_rd, ev_cst, ev_glo, ev_tup, ev_lst, ev_dct, ev_bin, ev_neg, ev_cmp, ev_chn, ev_isN, ev_notN, ev_and, ev_or, ev_not, ev_ite, ev_idx, ev_sli, ev_call, ev_b1, ev_b2, ev_mt, ev_isi, putM1, isOwnL, kept, setL, appM, parM, evAnd, evOr, evs, evT, eva, evi, evo, evk, callM, argsIn, muts, nodupN, outsIn, strong, isRd, opd, fin1, fin2, fin3, need, Vi.R.bind, Vi.O.get, isiT, tru, cmpT, idxT, atx, ixn, outsOf, getVar, rdVar, setVar, Vi.own, fz, testM, b1T, b2T, mtT, binT, negT, isNf, isNonT, inT, flat, eqb, asg, asgs, dat, dats, eqbs, List.range_succ, b, condE, noteS, sSize, q, q2, fitB, amtL, pairT, hlen, hto]
  · have h2 : ex c (.asg 12 hereE) (beEnv W k sMost num no R F (some (.int (p.1 : Nat))) (some (.int (p.2 : Nat))) (some (.int t)) x12 none) = .ok .nx (beEnv W k sMost num no R F (some (.int (p.1 : Nat))) (some (.int (p.2 : Nat))) (some (.int t)) (some (.int t)) none) := rfl
    refine ⟨some (.int t), some (.int t), exs_nx h1 (exs_nx h2 (exs_nx ?_ rfl))⟩
    by_cases q : t = num
    · subst q
      unfold beEnv
      simp [Def.run, exs_nil, exs_cons, ex_asg, ex_asgT, ex_par, ex_exp, ex_ifs, ex_ret, ex_retv, ex_put, ex_app, ev_var, ev_rd, ev_cst, ev_glo, ev_tup, ev_lst, ev_dct, ev_bin, ev_neg, ev_cmp, ev_chn, ev_isN, ev_notN, ev_and, ev_or, ev_not, ev_ite, ev_idx, ev_sli, ev_call, ev_b1, ev_b2, ev_mt, ev_isi, putM1, isOwnL, kept, setL, appM, parM, evAnd, evOr, evs, evT, eva, evi, evo, evk, callM, argsIn, muts, nodupN, outsIn, strong, isRd, opd, fin1, fin2, fin3, need, Vi.R.bind, Vi.O.get, isiT, tru, cmpT, idxT, atx, ixn, outsOf, getVar, rdVar, setVar, Vi.own, fz, testM, b1T, b2T, mtT, binT, negT, isNf, isNonT, inT, flat, eqb, asg, asgs, dat, dats, eqbs, List.range_succ, condE, noteS, sSize, sMost, fitB, amtL, pairT, hlen, hto]
    · have b : (t == num) = false := by simp [q]
      by_cases q2 : t < num
      · have q3 : t ≤ num := by omega
        unfold beEnv
        simp [Def.run, exs_nil, exs_cons, ex_asg, ex_asgT, ex_par, ex_exp, ex_ifs, ex_ret, ex_retv, ex_put, ex_app, ev_var, ev_rd, ev_cst, ev_glo, ev_tup, ev_lst, ev_dct, ev_bin, ev_neg, ev_cmp, ev_chn, ev_isN, ev_notN, ev_and, ev_or, ev_not, ev_ite, ev_idx, ev_sli, ev_call, ev_b1, ev_b2, ev_mt, ev_isi, putM1, isOwnL, kept, setL, appM, parM, evAnd, evOr, evs, evT, eva, evi, evo, evk, callM, argsIn, muts, nodupN, outsIn, strong, isRd, opd, fin1, fin2, fin3, need, Vi.R.bind, Vi.O.get, isiT, tru, cmpT, idxT, atx, ixn, outsOf, getVar, rdVar, setVar, Vi.own, fz, testM, b1T, b2T, mtT, binT, negT, isNf, isNonT, inT, flat, eqb, asg, asgs, dat, dats, eqbs, List.range_succ, condE, noteS, sSize, sMost, b, q, q2, q3, fitB, amtL, pairT, hlen, hto]
      · have q3 : ¬ t ≤ num := by omega
        unfold beEnv
        simp [Def.run, exs_nil, exs_cons, ex_asg, ex_asgT, ex_par, ex_exp, ex_ifs, ex_ret, ex_retv, ex_put, ex_app, ev_var, ev_rd, ev_cst, ev_glo, ev_tup, ev_lst, ev_dct, ev_bin, ev_neg, ev_cmp, ev_chn, ev_isN, ev_notN, ev_and, ev_or, ev_not, ev_ite, ev_idx, ev_sli, ev_call, ev_b1, ev_b2, ev_mt, ev_isi, putM1, isOwnL, kept, setL, appM, parM, evAnd, evOr, evs, evT, eva, evi, evo, evk, callM, argsIn, muts, nodupN, outsIn, strong, isRd, opd, fin1, fin2, fin3, need, Vi.R.bind, Vi.O.get, isiT, tru, cmpT, idxT, atx, ixn, outsOf, getVar, rdVar, setVar, Vi.own, fz, testM, b1T, b2T, mtT, binT, negT, isNf, isNonT, inT, flat, eqb, asg, asgs, dat, dats, eqbs, List.range_succ, condE, noteS, sSize, sMost, b, q, q2, q3, fitB, amtL, pairT, hlen, hto]
  · have h2 : ex c (.asg 12 hereE) (beEnv W k sLeast num no R F (some (.int (p.1 : Nat))) (some (.int (p.2 : Nat))) (some (.int t)) x12 none) = .ok .nx (beEnv W k sLeast num no R F (some (.int (p.1 : Nat))) (some (.int (p.2 : Nat))) (some (.int t)) (some (.int t)) none) := rfl
    refine ⟨some (.int t), some (.int t), exs_nx h1 (exs_nx h2 (exs_nx ?_ rfl))⟩
    by_cases q : t = num
    · subst q
      unfold beEnv
      simp [Def.run, exs_nil, exs_cons, ex_asg, ex_asgT, ex_par, ex_exp, ex_ifs, ex_ret, ex_retv, ex_put, ex_app, ev_var, ev_rd, ev_cst, ev_glo, ev_tup, ev_lst, ev_dct, ev_bin, ev_neg, ev_cmp, ev_chn, ev_isN, ev_notN, ev_and, ev_or, ev_not, ev_ite, ev_idx, ev_sli, ev_call, ev_b1, ev_b2, ev_mt, ev_isi, putM1, isOwnL, kept, setL, appM, parM, evAnd, evOr, evs, evT, eva, evi, evo, evk, callM, argsIn, muts, nodupN, outsIn, strong, isRd, opd, fin1, fin2, fin3, need, Vi.R.bind, Vi.O.get, isiT, tru, cmpT, idxT, atx, ixn, outsOf, getVar, rdVar, setVar, Vi.own, fz, testM, b1T, b2T, mtT, binT, negT, isNf, isNonT, inT, flat, eqb, asg, asgs, dat, dats, eqbs, List.range_succ, condE, noteS, sSize, sMost, sLeast, fitB, amtL, pairT, hlen, hto]
    · have b : (t == num) = false := by simp [q]
      by_cases q2 : num < t
      · have q3 : num ≤ t := by omega
        unfold beEnv
        simp [Def.run, exs_nil, exs_cons, ex_asg, ex_asgT, ex_par, ex_exp, ex_ifs, ex_ret, ex_retv, ex_put, ex_app, ev_var, ev_rd, ev_cst, ev_glo, ev_tup, ev_lst, ev_dct, ev_bin, ev_neg, ev_cmp, ev_chn, ev_isN, ev_notN, ev_and, ev_or, ev_not, ev_ite, ev_idx, ev_sli, ev_call, ev_b1, ev_b2, ev_mt, ev_isi, putM1, isOwnL, kept, setL, appM, parM, evAnd, evOr, evs, evT, eva, evi, evo, evk, callM, argsIn, muts, nodupN, outsIn, strong, isRd, opd, fin1, fin2, fin3, need, Vi.R.bind, Vi.O.get, isiT, tru, cmpT, idxT, atx, ixn, outsOf, getVar, rdVar, setVar, Vi.own, fz, testM, b1T, b2T, mtT, binT, negT, isNf, isNonT, inT, flat, eqb, asg, asgs, dat, dats, eqbs, List.range_succ, condE, noteS, sSize, sMost, sLeast, b, q, q2, q3, fitB, amtL, pairT, hlen, hto]
      · have q3 : ¬ num ≤ t := by omega
        unfold beEnv
        simp [Def.run, exs_nil, exs_cons, ex_asg, ex_asgT, ex_par, ex_exp, ex_ifs, ex_ret, ex_retv, ex_put, ex_app, ev_var, ev_rd, ev_cst, ev_glo, ev_tup, ev_lst, ev_dct, ev_bin, ev_neg, ev_cmp, ev_chn, ev_isN, ev_notN, ev_and, ev_or, ev_not, ev_ite, ev_idx, ev_sli, ev_call, ev_b1, ev_b2, ev_mt, ev_isi, putM1, isOwnL, kept, setL, appM, parM, evAnd, evOr, evs, evT, eva, evi, evo, evk, callM, argsIn, muts, nodupN, outsIn, strong, isRd, opd, fin1, fin2, fin3, need, Vi.R.bind, Vi.O.get, isiT, tru, cmpT, idxT, atx, ixn, outsOf, getVar, rdVar, setVar, Vi.own, fz, testM, b1T, b2T, mtT, binT, negT, isNf, isNonT, inT, flat, eqb, asg, asgs, dat, dats, eqbs, List.range_succ, condE, noteS, sSize, sMost, sLeast, b, q, q2, q3, fitB, amtL, pairT, hlen, hto]
  · have h2 : ex c (.asg 12 hereE) (beEnv W k sJust num no R F (some (.int (p.1 : Nat))) (some (.int (p.2 : Nat))) (some (.int t)) x12 none) = .ok .nx (beEnv W k sJust num no R F (some (.int (p.1 : Nat))) (some (.int (p.2 : Nat))) (some (.int t)) (some (.int t)) none) := rfl
    refine ⟨some (.int t), some (.int t), exs_nx h1 (exs_nx h2 (exs_nx ?_ rfl))⟩
    by_cases q : t = num
    · subst q
      unfold beEnv
      simp [Def.run, exs_nil, exs_cons, ex_asg, ex_asgT, ex_par, ex_exp, ex_ifs, ex_ret, ex_retv, ex_put, ex_app, ev_var, ev_rd, ev_cst, ev_glo, ev_tup, ev_lst, ev_dct, ev_bin, ev_neg, ev_cmp, ev_chn, ev_isN, ev_notN, ev_and, ev_or, ev_not, ev_ite, ev_idx, ev_sli, ev_call, ev_b1, ev_b2, ev_mt, ev_isi, putM1, isOwnL, kept, setL, appM, parM, evAnd, evOr, evs, evT, eva, evi, evo, evk, callM, argsIn, muts, nodupN, outsIn, strong, isRd, opd, fin1, fin2, fin3, need, Vi.R.bind, Vi.O.get, isiT, tru, cmpT, idxT, atx, ixn, outsOf, getVar, rdVar, setVar, Vi.own, fz, testM, b1T, b2T, mtT, binT, negT, isNf, isNonT, inT, flat, eqb, asg, asgs, dat, dats, eqbs, List.range_succ, condE, noteS, sSize, sMost, sLeast, sJust, fitB, amtL, pairT, hlen, hto]
    · have b : (t == num) = false := by simp [q]
      unfold beEnv
      simp [Def.run, exs_nil, exs_cons, ex_asg, ex_asgT, ex_par, ex_exp, ex_ifs, ex_ret, ex_retv, ex_put, ex_app, ev_var, ev_rd, ev_cst, ev_glo, ev_tup, ev_lst, ev_dct, ev_bin, ev_neg, ev_cmp, ev_chn, ev_isN, ev_notN, ev_and, ev_or, ev_not, ev_ite, ev_idx, ev_sli, ev_call, ev_b1, ev_b2, ev_mt, ev_isi, putM1, isOwnL, kept, setL, appM, parM, evAnd, evOr, evs, evT, eva, evi, evo, evk, callM, argsIn, muts, nodupN, outsIn, strong, isRd, opd, fin1, fin2, fin3, need, Vi.R.bind, Vi.O.get, isiT, tru, cmpT, idxT, atx, ixn, outsOf, getVar, rdVar, setVar, Vi.own, fz, testM, b1T, b2T, mtT, binT, negT, isNf, isNonT, inT, flat, eqb, asg, asgs, dat, dats, eqbs, List.range_succ, condE, noteS, sSize, sMost, sLeast, sJust, b, q, fitB, amtL, pairT, hlen, hto]
end ViLaw

set_option maxRecDepth 100000
set_option maxHeartbeats 1000000
set_option linter.all false
namespace ViLaw
open Vi
theorem forL_cons {tg : T → M Unit} {body : M Fl} {x : T} {r : List T} {e e1 e2 : Env} {u : Unit} (h : tg x e = .ok u e1) (h2 : body e1 = .ok .nx e2) : forL tg body (x :: r) e = forL tg body r e2 := by
  show ((tg x e).bind fun _ e => (body e).bind fun f e => match f with
    | .nx => forL tg body r e
    | .cnt => forL tg body r e
    | .brk => .ok .nx e
    | .ret t => .ok (.ret t) e) = _
  rw [h]
  show ((body e1).bind _) = _
  rw [h2]
  rfl
def inF (W : List Int) (s : List Nat) (num : Int) (R : List Nat) (i : Nat) (js : List Nat) : List (Nat × Nat) := (js.map fun j => (i, j)).filter fun p => fitB W s num (sub R p)
theorem in_loop (c : Cfg) (W : List Int) (k s : List Nat) (num : Int) (no : T) (R : List Nat) (i : Nat) (hR : ROk W R) (hl : R.length ≤ 40) (hs : SOk s) : ∀ (js : List Nat) (F : List (Nat × Nat)) (y10 y11 y12 : Option T), (∀ j ∈ js, i < j ∧ j ≤ R.length) → F.length + js.length ≤ 2000 →
    ∃ z10 z11 z12, forL (asg (.nm 10)) (exs c inB) (js.map fun j => .int (j : Nat)) (beEnv W k s num no R F (some (.int (i : Nat))) y10 y11 y12 none) = .ok .nx (beEnv W k s num no R (F ++ inF W s num R i js) (some (.int (i : Nat))) z10 z11 z12 none)
  | [], F, y10, y11, y12, _, _ => ⟨y10, y11, y12, by simp [inF, forL]⟩
  | j :: js, F, y10, y11, y12, hj, hF => by
    rw [List.length_cons] at hF
    obtain ⟨w11, w12, h1⟩ := in_step c W k s num no R F y11 y12 (i, j) hR hl (hj j List.mem_cons_self) hs (by omega)
    obtain ⟨z10, z11, z12, h2⟩ := in_loop c W k s num no R i hR hl hs js (F ++ if fitB W s num (sub R (i, j)) then [(i, j)] else []) (some (.int (j : Nat))) w11 w12 (fun x hx => hj x (List.mem_cons_of_mem _ hx)) (by
      rw [List.length_append]
      split
      · show F.length + 1 + js.length ≤ 2000; omega
      · show F.length + 0 + js.length ≤ 2000; omega)
    refine ⟨z10, z11, z12, ?_⟩
    rw [List.map_cons, forL_cons (e1 := beEnv W k s num no R F (some (.int (i : Nat))) (some (.int (j : Nat))) y11 y12 none) rfl h1, h2]
    congr 2
    rw [List.append_assoc]
    congr 1
    unfold inF
    rw [List.map_cons, List.filter_cons]
    split <;> rfl
theorem inF_len (W : List Int) (s : List Nat) (num : Int) (R : List Nat) (i : Nat) (js : List Nat) : (inF W s num R i js).length ≤ js.length := by
  unfold inF
  have := List.length_filter_le (fun p => fitB W s num (sub R p)) (js.map fun j => (i, j))
  rwa [List.length_map] at this
theorem upto_in (m i : Nat) : upto ((i : Int) + 1) ((m : Int) + 1) = (((List.range (m - i)).map fun j => i + 1 + j).map fun j => T.int ((j : Nat) : Int)) := by
  unfold upto
  have e : ((m : Int) + 1 - ((i : Int) + 1)).toNat = m - i := by omega
  rw [e, List.map_map]
  apply List.map_congr_left
  intro j _
  show T.int ((i : Int) + 1 + (j : Int)) = T.int (((i + 1 + j : Nat)) : Int)
  congr 1
theorem upto_out (m : Nat) : upto 0 (m : Int) = (List.range m).map fun j => T.int ((j : Nat) : Int) := by
  unfold upto
  have e : ((m : Int) - 0).toNat = m := by omega
  rw [e]
  apply List.map_congr_left
  intro j _
  show T.int (0 + (j : Int)) = _
  congr 1
  omega
def jsOf (R : List Nat) (i : Nat) : List Nat := (List.range (R.length - i)).map fun j => i + 1 + j
theorem out_step (n : Nat) (W : List Int) (k s : List Nat) (num : Int) (no : T) (R : List Nat) (i : Nat) (hR : ROk W R) (hl : R.length ≤ 40) (hs : SOk s) (hi : i < R.length) (F : List (Nat × Nat)) (y10 y11 y12 : Option T) (hF : F.length ≤ 1900) :
    ∃ z10 z11 z12, exs (Cfg.mk gl (prog.tab n)) outB (beEnv W k s num no R F (some (.int (i : Nat))) y10 y11 y12 none) = .ok .nx (beEnv W k s num no R (F ++ inF W s num R i (jsOf R i)) (some (.int (i : Nat))) z10 z11 z12 none) := by
  obtain ⟨z10, z11, z12, h⟩ := in_loop (Cfg.mk gl (prog.tab n)) W k s num no R i hR hl hs (jsOf R i) F y10 y11 y12 (fun j hj => by
    unfold jsOf at hj
    obtain ⟨j', hj', rfl⟩ := List.mem_map.mp hj
    have : j' < R.length - i := by simpa using hj'
    omega) (by unfold jsOf; rw [List.length_map, List.length_range]; omega)
  refine ⟨z10, z11, z12, exs_nx ?_ rfl⟩
  have h1 : R.length ≤ line := by show _ ≤ 16777216; omega
  have hlen : ev (Cfg.mk gl (prog.tab n)) (.bin .add (.b1 .len (.rd 2)) (.cst (.int 1))) (beEnv W k s num no R F (some (.int (i : Nat))) y10 y11 y12 none) = .ok (.int ((R.length : Int) + 1)) (beEnv W k s num no R F (some (.int (i : Nat))) y10 y11 y12 none) := by
    show (((need (if R.length ≤ line then some (T.int R.length) else none) _).bind fun t e => Vi.R.ok (O.v t) e).bind fun o e => _) = _
    rw [if_pos h1]; rfl
  rw [ex_for]
  show ((evi (Cfg.mk gl (prog.tab n)) (.rng2 _ _) _).bind fun l e => forL _ _ l e) = _
  rw [evi_rng2 (t := .int ((i : Int) + 1)) (u := .int ((R.length : Int) + 1)) rfl rfl rfl hlen (rngT_ok (s62 (by omega) (by omega)) (s62 (by omega) (by omega)))]
  show forL _ _ (upto ((i : Int) + 1) ((R.length : Int) + 1)) _ = _
  rw [upto_in]
  exact h
theorem out_loop (n : Nat) (W : List Int) (k s : List Nat) (num : Int) (no : T) (R : List Nat) (hR : ROk W R) (hl : R.length ≤ 40) (hs : SOk s) : ∀ (is : List Nat) (F : List (Nat × Nat)) (y3 y10 y11 y12 : Option T), (∀ i ∈ is, i < R.length) → F.length + is.length * 40 ≤ 1900 →
    ∃ z3 z10 z11 z12, forL (asg (.nm 3)) (exs (Cfg.mk gl (prog.tab n)) outB) (is.map fun j => .int (j : Nat)) (beEnv W k s num no R F y3 y10 y11 y12 none) = .ok .nx (beEnv W k s num no R (F ++ is.flatMap fun i => inF W s num R i (jsOf R i)) z3 z10 z11 z12 none)
  | [], F, y3, y10, y11, y12, _, _ => ⟨y3, y10, y11, y12, by simp [forL]⟩
  | i :: is, F, y3, y10, y11, y12, hj, hF => by
    rw [List.length_cons, Nat.add_mul] at hF
    obtain ⟨w10, w11, w12, h1⟩ := out_step n W k s num no R i hR hl hs (hj i List.mem_cons_self) F y10 y11 y12 (by omega)
    have hb : (inF W s num R i (jsOf R i)).length ≤ 40 := by
      have := inF_len W s num R i (jsOf R i)
      unfold jsOf at this ⊢
      rw [List.length_map, List.length_range] at this
      omega
    obtain ⟨z3, z10, z11, z12, h2⟩ := out_loop n W k s num no R hR hl hs is (F ++ inF W s num R i (jsOf R i)) (some (.int (i : Nat))) w10 w11 w12 (fun x hx => hj x (List.mem_cons_of_mem _ hx)) (by
      rw [List.length_append]; omega)
    refine ⟨z3, z10, z11, z12, ?_⟩
    rw [List.map_cons, forL_cons (e1 := beEnv W k s num no R F (some (.int (i : Nat))) y10 y11 y12 none) rfl h1, h2, List.flatMap_cons, List.append_assoc]
theorem flat_wins (W : List Int) (s : List Nat) (num : Int) (R : List Nat) : ((List.range R.length).flatMap fun i => inF W s num R i (jsOf R i)) = wins W s num R := by
  unfold wins pairs
  rw [List.filter_flatMap]
  congr 1
  funext i
  unfold inF jsOf
  rw [List.map_map]
  rfl
def bestA (W : List Int) (k s : List Nat) (num : Int) (no : T) (R : List Nat) : T :=
  if k = kNum then .int ((wins W s num R).length : Nat) else if wins W s num R = [] then no else ((if k = kLong ∨ k = kGreat then maxI ((wins W s num R).map (amtL W s R)) else minI ((wins W s num R).map (amtL W s R))).map T.int).getD .und
theorem best_loop (n : Nat) (W : List Int) (k s : List Nat) (num : Int) (no : T) (R : List Nat) (hR : ROk W R) (hl : R.length ≤ 40) (hs : SOk s) : ∃ z3 z10 z11 z12, ex (Cfg.mk gl (prog.tab n)) (.for (.nm 3) (.rng (.b1 .len (.rd 2))) outB) (beEnv W k s num no R [] none none none none none) = .ok .nx (beEnv W k s num no R (wins W s num R) z3 z10 z11 z12 none) := by
  obtain ⟨z3, z10, z11, z12, h⟩ := out_loop n W k s num no R hR hl hs (List.range R.length) [] none none none none (fun i hi => by simpa using hi) (by rw [List.length_range]; show 0 + _ ≤ _; omega)
  rw [flat_wins] at h
  refine ⟨z3, z10, z11, z12, ?_⟩
  have h1 : R.length ≤ line := by show _ ≤ 16777216; omega
  have hlen : ev (Cfg.mk gl (prog.tab n)) (.b1 .len (.rd 2)) (beEnv W k s num no R [] none none none none none) = .ok (.int (R.length : Int)) (beEnv W k s num no R [] none none none none none) := by
    show need (if R.length ≤ line then some (T.int R.length) else none) _ = _
    rw [if_pos h1]; rfl
  rw [ex_for]
  show ((evi (Cfg.mk gl (prog.tab n)) (.rng _) _).bind fun l e => forL _ _ l e) = _
  rw [evi_rng rfl hlen (rngT_ok (by decide) (s62 (by omega) (by omega)))]
  show forL _ _ (upto 0 (R.length : Int)) _ = _
  rw [upto_out]
  exact h
end ViLaw

set_option maxRecDepth 100000
set_option maxHeartbeats 1000000
set_option linter.all false
namespace ViLaw
open Vi
theorem dats_pairs (n : Nat) : ∀ l : List (Nat × Nat), dats (n + 1) (l.map pairT) = true
  | [] => rfl
  | p :: l => by
    show (dat (n + 1) (pairT p) && dats (n + 1) (l.map pairT)) = true
    rw [dats_pairs n l]
    rfl
def tailS : Ss := (.cons (.ifs (.cmp .eq (.rd 4) (.cst (.str [110, 117, 109, 98, 101, 114]))) (.cons (.ret (.tup (.cons (.b1 .len (.rd 8)) (.cons (.var 8) .nil)))) .nil) .nil) (.cons (.ifs (.cmp .eq (.rd 8) (.lst .nil)) (.cons (.ret (.tup (.cons (.var 7) (.cons (.var 8) .nil)))) .nil) .nil) (.cons (.ret (.tup (.cons (.ite (.cmp .inn (.rd 4) (.tup (.cons (.cst (.str [108, 111, 110, 103, 101, 115, 116])) (.cons (.cst (.str [103, 114, 101, 97, 116, 101, 115, 116])) .nil)))) (.b1 .max (.rd 9)) (.b1 .min (.rd 9))) (.cons (.var 8) .nil)))) .nil)))
theorem some_max {l : List Int} (h : l ≠ []) : ∃ m, maxI l = some m := by
  cases q : maxI l with
  | some m => exact ⟨m, rfl⟩
  | none =>
    cases l with
    | nil => exact absurd rfl h
    | cons a r =>
      have := Win.isMax_maxI (a :: r)
      rw [q] at this
      exact absurd this (by simp [Win.IsMax])
theorem some_min {l : List Int} (h : l ≠ []) : ∃ m, minI l = some m := by
  cases q : minI l with
  | some m => exact ⟨m, rfl⟩
  | none =>
    cases l with
    | nil => exact absurd rfl h
    | cons a r =>
      have := Win.isMin_minI (a :: r)
      rw [q] at this
      exact absurd this (by simp [Win.IsMin])
theorem ifs_t {c : Cfg} {q : E} {a b : Ss} {e e1 : Env} {r : R Fl} (hq : isRd q = none) (h : ev c q e = .ok (.bl true) e1) (h2 : exs c a e1 = r) : ex c (.ifs q a b) e = r := by
  show (testM (isRd q) (ev c q) e).bind (fun k e => if k then exs c a e else exs c b e) = _
  rw [hq]
  show (((ev c q e).bind fun t e => R.ok (O.v t) e).bind _).bind _ = _
  rw [h]
  exact h2
theorem ifs_f {c : Cfg} {q : E} {a b : Ss} {e e1 : Env} {r : R Fl} (hq : isRd q = none) (h : ev c q e = .ok (.bl false) e1) (h2 : exs c b e1 = r) : ex c (.ifs q a b) e = r := by
  show (testM (isRd q) (ev c q) e).bind (fun k e => if k then exs c a e else exs c b e) = _
  rw [hq]
  show (((ev c q e).bind fun t e => R.ok (O.v t) e).bind _).bind _ = _
  rw [h]
  exact h2
theorem best_tail (c : Cfg) (W : List Int) (k s : List Nat) (num : Int) (no : T) (R : List Nat) (F : List (Nat × Nat)) (y3 y10 y11 y12 : Option T) (hno : no = .non ∨ ∃ i, no = .int i) (hF : F = wins W s num R) :
    ∃ e, exs c tailS (beEnv W k s num no R F y3 y10 y11 y12 none) = .ok (.ret (.tup [bestA W k s num no R, .lst false (F.map pairT)])) e := by
  have d2 := dats_pairs 62 F
  unfold bestA
  rw [← hF]
  by_cases h1 : k = kNum
  · subst h1
    refine ⟨_, exs_ret (ifs_t rfl (e1 := beEnv W kNum s num no R F y3 y10 y11 y12 none) rfl (exs_ret (ret_of rfl (tup_of (evs_cons rfl (t := .int (F.length : Nat)) (e1 := beEnv W kNum s num no R F y3 y10 y11 y12 none) ?_ rfl)))))⟩
    · show need (some (T.int ((F.map pairT).length : Nat))) _ = _
      rw [List.length_map]
      rfl
  · have b1 : (k == [110, 117, 109, 98, 101, 114]) = false := by
      have h1 : ¬ k = [110, 117, 109, 98, 101, 114] := h1
      simp [h1]
    have e1 : ex c (.ifs (.cmp .eq (.rd 4) (.cst (.str [110, 117, 109, 98, 101, 114]))) (.cons (.ret (.tup (.cons (.b1 .len (.rd 8)) (.cons (.var 8) .nil)))) .nil) .nil) (beEnv W k s num no R F y3 y10 y11 y12 none) = .ok .nx (beEnv W k s num no R F y3 y10 y11 y12 none) := by
      have h1' : ¬ k = [110, 117, 109, 98, 101, 114] := h1
      unfold beEnv
      simp [Def.run, exs_nil, exs_cons, ex_asg, ex_asgT, ex_par, ex_exp, ex_ifs, ex_ret, ex_retv, ex_put, ex_app, ev_var, ev_rd, ev_cst, ev_glo, ev_tup, ev_lst, ev_dct, ev_bin, ev_neg, ev_cmp, ev_chn, ev_isN, ev_notN, ev_and, ev_or, ev_not, ev_ite, ev_idx, ev_sli, ev_call, ev_b1, ev_b2, ev_mt, ev_isi, putM1, isOwnL, kept, setL, appM, parM, evAnd, evOr, evs, evT, eva, evi, evo, evk, callM, argsIn, muts, nodupN, outsIn, strong, isRd, opd, fin1, fin2, fin3, need, Vi.R.bind, Vi.O.get, isiT, tru, cmpT, idxT, atx, ixn, outsOf, getVar, rdVar, setVar, Vi.own, fz, testM, b1T, b2T, mtT, binT, negT, isNf, isNonT, inT, flat, eqb, asg, asgs, dat, dats, eqbs, List.range_succ, b1, h1']
    rw [if_neg h1]
    cases F with
    | nil =>
      rw [if_pos rfl]
      rcases hno with rfl | ⟨i, rfl⟩
      · exact ⟨_, exs_nx e1 (exs_ret (ifs_t rfl (e1 := beEnv W k s num .non R [] y3 y10 y11 y12 none) rfl (exs_ret (ret_of rfl (tup_of rfl)))))⟩
      · exact ⟨_, exs_nx e1 (exs_ret (ifs_t rfl (e1 := beEnv W k s num (.int i) R [] y3 y10 y11 y12 none) rfl (exs_ret (ret_of rfl (tup_of rfl)))))⟩
    | cons p F =>
      have e2 : ex c (.ifs (.cmp .eq (.rd 8) (.lst .nil)) (.cons (.ret (.tup (.cons (.var 7) (.cons (.var 8) .nil)))) .nil) .nil) (beEnv W k s num no R (p :: F) y3 y10 y11 y12 none) = .ok .nx (beEnv W k s num no R (p :: F) y3 y10 y11 y12 none) := by
        have d3 : dat 64 (.lst true ((p :: F).map pairT)) = true := d2
        have : ev c (.cmp .eq (.rd 8) (.lst .nil)) (beEnv W k s num no R (p :: F) y3 y10 y11 y12 none) = .ok (.bl false) (beEnv W k s num no R (p :: F) y3 y10 y11 y12 none) := by
          show need ((if (dat 64 (.lst true ((p :: F).map pairT)) && dat 64 (.lst true [])) = true then some (eqb (.lst true ((p :: F).map pairT)) (.lst true [])) else none).map T.bl) _ = _
          rw [d3]
          rfl
        exact ifs_f rfl this rfl
      rw [if_neg (by simp)]
      obtain ⟨mx, hmx⟩ := some_max (l := (p :: F).map (amtL W s R)) (by simp)
      obtain ⟨mn, hmn⟩ := some_min (l := (p :: F).map (amtL W s R)) (by simp)
      have i2 := ints_map ((p :: F).map (amtL W s R))
      have emax : ev c (.b1 .max (.rd 9)) (beEnv W k s num no R (p :: F) y3 y10 y11 y12 none) = .ok (.int mx) (beEnv W k s num no R (p :: F) y3 y10 y11 y12 none) := by
        show need ((ints? (((p :: F).map (amtL W s R)).map .int)).bind fun is => (maxI is).map T.int) _ = _
        rw [i2]
        show need ((maxI ((p :: F).map (amtL W s R))).map T.int) _ = _
        rw [hmx]
        rfl
      have emin : ev c (.b1 .min (.rd 9)) (beEnv W k s num no R (p :: F) y3 y10 y11 y12 none) = .ok (.int mn) (beEnv W k s num no R (p :: F) y3 y10 y11 y12 none) := by
        show need ((ints? (((p :: F).map (amtL W s R)).map .int)).bind fun is => (minI is).map T.int) _ = _
        rw [i2]
        show need ((minI ((p :: F).map (amtL W s R))).map T.int) _ = _
        rw [hmn]
        rfl
      by_cases h2 : k = kLong ∨ k = kGreat
      · rw [if_pos h2, hmx]
        refine ⟨_, exs_nx e1 (exs_nx e2 (exs_ret (ret_of rfl (tup_of (evs_cons rfl (ite_t rfl (e1 := beEnv W k s num no R (p :: F) y3 y10 y11 y12 none) ?_ rfl emax) rfl)))))⟩
        rcases h2 with rfl | rfl <;> rfl
      · rw [if_neg h2, hmn]
        refine ⟨_, exs_nx e1 (exs_nx e2 (exs_ret (ret_of rfl (tup_of (evs_cons rfl (ite_f rfl (e1 := beEnv W k s num no R (p :: F) y3 y10 y11 y12 none) ?_ rfl emin) rfl)))))⟩
        have h3 : ¬ k = [108, 111, 110, 103, 101, 115, 116] := fun z => h2 (.inl z)
        have h4 : ¬ k = [103, 114, 101, 97, 116, 101, 115, 116] := fun z => h2 (.inr z)
        have g3 : ¬ [108, 111, 110, 103, 101, 115, 116] = k := fun z => h3 z.symm
        have g4 : ¬ [103, 114, 101, 97, 116, 101, 115, 116] = k := fun z => h4 z.symm
        have b3 : ([108, 111, 110, 103, 101, 115, 116] == k) = false := by simp [g3]
        have b4 : ([103, 114, 101, 97, 116, 101, 115, 116] == k) = false := by simp [g4]
        unfold beEnv
        simp [Def.run, exs_nil, exs_cons, ex_asg, ex_asgT, ex_par, ex_exp, ex_ifs, ex_ret, ex_retv, ex_put, ex_app, ev_var, ev_rd, ev_cst, ev_glo, ev_tup, ev_lst, ev_dct, ev_bin, ev_neg, ev_cmp, ev_chn, ev_isN, ev_notN, ev_and, ev_or, ev_not, ev_ite, ev_idx, ev_sli, ev_call, ev_b1, ev_b2, ev_mt, ev_isi, putM1, isOwnL, kept, setL, appM, parM, evAnd, evOr, evs, evT, eva, evi, evo, evk, callM, argsIn, muts, nodupN, outsIn, strong, isRd, opd, fin1, fin2, fin3, need, Vi.R.bind, Vi.O.get, isiT, tru, cmpT, idxT, atx, ixn, outsOf, getVar, rdVar, setVar, Vi.own, fz, testM, b1T, b2T, mtT, binT, negT, isNf, isNonT, inT, flat, eqb, asg, asgs, dat, dats, eqbs, List.range_succ, b3, b4, g3, g4]
theorem t_best (n : Nat) (W : List Int) (R : List Nat) (k s : List Nat) (num : Int) (no : T) (hR : ROk W R) (hl : R.length ≤ 40) (hs : SOk s) (hno : no = .non ∨ ∃ i, no = .int i) :
    prog.tab (n + 1) 26 [tupI W, wishT k s num no, .str R] = .ret (.tup [bestA W k s num no R, .lst false ((wins W s num R).map pairT)]) [none, none, none] := by
  rw [tabs n 26 l_best _ rfl]
  obtain ⟨z3, z10, z11, z12, h⟩ := best_loop n W k s num no R hR hl hs
  obtain ⟨e, h2⟩ := best_tail (Cfg.mk gl (prog.tab n)) W k s num no R (wins W s num R) z3 z10 z11 z12 hno rfl
  have e0 : exs (Cfg.mk gl (prog.tab n)) l_best.body [some (tupI W), some (wishT k s num no), some (.str R), none, none, none, none, none, none, none, none, none, none, none] = .ok (.ret (.tup [bestA W k s num no R, .lst false ((wins W s num R).map pairT)])) e := by
    refine exs_nx (e1 := [some (tupI W), some (wishT k s num no), some (.str R), none, some (.str k), some (.str s), some (.int num), some no, none, none, none, none, none, none]) ?_ (exs_nx (e1 := beEnv W k s num no R [] none none none none none) ?_ (exs_nx h h2))
    · rcases hno with rfl | ⟨i, rfl⟩ <;> rfl
    · rfl
  exact Eq.trans (run_ret rfl e0) rfl
end ViLaw

set_option maxRecDepth 100000
set_option maxHeartbeats 1000000
set_option linter.all false
namespace ViLaw
open Vi
theorem ans_all (W : List Int) (k s : List Nat) (num : Int) : ∀ (R S : List Nat) (a : Option Int), (R.foldl (stepR W k s num) (S, a)).2 = foldA (wordOf k) a (((Win.allF num.toNat S R).filter (fitB W s num)).map (amount W k))
  | [], S, a => rfl
  | c :: R, S, a => by
    rw [List.foldl_cons]
    have := ans_all W k s num R (stepR W k s num (S, a) c).1 (stepR W k s num (S, a) c).2
    refine Eq.trans this ?_
    show _ = foldA (wordOf k) a (((Win.tails (Win.lastN num.toNat (S ++ [c])) ++ Win.allF num.toNat (Win.lastN num.toNat (S ++ [c])) R).filter (fitB W s num)).map (amount W k))
    rw [List.filter_append, List.map_append]
    unfold foldA
    rw [List.foldl_append]
    rfl
/-! fits only up to its number -/
theorem val_pos {W : List Int} (hW : WOk W) {c : Nat} (h : LOk W c) : 1 ≤ val W c := by
  have h2 : c - 97 < W.length := h.2.1
  have : val W c = W[c - 97] := by simp [val, List.getD_eq_getElem?_getD, List.getElem?_eq_getElem h2]
  rw [this]
  exact (hW.2.2 _ (List.getElem_mem h2)).1
theorem total_len {W : List Int} (hW : WOk W) : ∀ {R : List Nat}, ROk W R → (R.length : Int) ≤ total W R
  | [], _ => by simp [total]
  | c :: R, h => by
    have h1 := val_pos hW (h c List.mem_cons_self)
    have h2 := total_len hW (fun x hx => h x (List.mem_cons_of_mem _ hx) : ROk W R)
    have : total W (c :: R) = val W c + total W R := by simp [total]
    rw [this, List.length_cons]
    omega
def narrow (s : List Nat) : Prop := s = sSize ∨ s = sMost ∨ s = sJust
theorem fit_len {W : List Int} (hW : WOk W) {s : List Nat} (hs : narrow s) {num : Int} {t : List Nat} (ht : ROk W t) (h : fitB W s num t = true) : t.length ≤ num.toNat := by
  have hl := total_len hW ht
  rcases hs with rfl | rfl | rfl
  · have h : decide ((t.length : Int) = num) = true := h
    have := of_decide_eq_true h
    omega
  · have h : decide (total W t ≤ num) = true := h
    have := of_decide_eq_true h
    omega
  · have h : decide (total W t = num) = true := h
    have := of_decide_eq_true h
    omega
theorem allF_sub (n : Nat) : ∀ (R S t : List Nat), t ∈ Win.allF n S R → ∀ c ∈ t, c ∈ S ∨ c ∈ R
  | [], S, t, h => by simp [Win.allF] at h
  | d :: R, S, t, h => by
    intro c hc
    have h : t ∈ Win.tails (Win.lastN n (S ++ [d])) ++ Win.allF n (Win.lastN n (S ++ [d])) R := h
    have key : ∀ x, x ∈ Win.lastN n (S ++ [d]) → x ∈ S ∨ x ∈ d :: R := fun x hx => by
      have hx : x ∈ S ++ [d] := List.mem_of_mem_drop hx
      rcases List.mem_append.mp hx with hx | hx
      · exact .inl hx
      · simp at hx; subst hx; exact .inr List.mem_cons_self
    rcases List.mem_append.mp h with h | h
    · obtain ⟨i, _, rfl⟩ := List.mem_map.mp h
      exact key c (List.mem_of_mem_drop hc)
    · rcases allF_sub n R _ t h c hc with h | h
      · exact key c h
      · exact .inr (List.mem_cons_of_mem _ h)
theorem countP_and {α : Type} (l : List α) (p q r : α → Bool) (h : ∀ x ∈ l, (p x && q x) = (p x && r x)) : l.countP (fun x => p x && q x) = l.countP fun x => p x && r x := by
  apply List.countP_congr
  intro x hx
  rw [h x hx]
/-- what is looked at and fits, counted by a test -/
theorem count_fit {W : List Int} (hW : WOk W) {s : List Nat} (num : Int) {R : List Nat} (hR : ROk W R) (g : List Nat → Bool) (hg : ∀ t, ROk W t → fitB W s num t = true → g t = true → t.length ≤ num.toNat) :
    ((Win.allF num.toNat [] R).filter (fitB W s num)).countP g = ((wins W s num R).map (sub R)).countP g := by
  have key := Win.count_allF (n := num.toNat) (fun t => decide (t.length ≤ num.toNat) && (fitB W s num t && g t)) (fun t h => by
    have := (Bool.and_eq_true _ _ ▸ h).1
    exact of_decide_eq_true this) R
  have e1 : ((Win.allF num.toNat [] R).filter (fitB W s num)).countP g = (Win.allF num.toNat [] R).countP fun t => decide (t.length ≤ num.toNat) && (fitB W s num t && g t) := by
    rw [List.countP_filter]
    apply List.countP_congr
    intro t ht
    have hOk : ROk W t := fun c hc => by
      rcases allF_sub _ R [] t ht c hc with h | h
      · simp at h
      · exact hR c h
    simp only [Bool.and_eq_true, decide_eq_true_eq]
    constructor
    · intro ⟨a, b⟩
      exact ⟨hg t hOk b a, b, a⟩
    · intro ⟨_, b, a⟩
      exact ⟨a, b⟩
  have e2 : ((wins W s num R).map (sub R)).countP g = (pairs R.length).countP fun p => decide ((sub R p).length ≤ num.toNat) && (fitB W s num (sub R p) && g (sub R p)) := by
    unfold wins
    rw [List.countP_map, List.countP_filter]
    apply List.countP_congr
    intro p hp
    have hOk := hR.window p
    simp only [Function.comp, Bool.and_eq_true, decide_eq_true_eq]
    constructor
    · intro ⟨a, b⟩
      exact ⟨hg _ hOk b a, b, a⟩
    · intro ⟨_, b, a⟩
      exact ⟨a, b⟩
  rw [e1, e2]
  exact key
theorem mem_fit {W : List Int} (hW : WOk W) {s : List Nat} (hs : narrow s) (num : Int) {R : List Nat} (hR : ROk W R) (f : List Nat → Int) (x : Int) : x ∈ (((Win.allF num.toNat [] R).filter (fitB W s num)).map f) ↔ x ∈ (((wins W s num R).map (sub R)).map f) := by
  have := count_fit hW num hR (fun t => decide (f t = x)) (fun t h1 h2 _ => fit_len hW hs h1 h2)
  have a : ∀ l : List (List Nat), x ∈ l.map f ↔ 0 < l.countP fun t => decide (f t = x) := fun l => by
    rw [List.countP_pos_iff, List.mem_map]
    simp
  rw [a, a, this]
theorem fold_up : ∀ (ms : List Int) (a : Option Int), foldA sMost a ms = ms.foldl Win.upM a
  | [], a => rfl
  | m :: ms, a => by
    show foldA sMost (stepA sMost a m) ms = ms.foldl Win.upM (Win.upM a m)
    have : stepA sMost a m = Win.upM a m := by
      cases a with
      | none => rfl
      | some i => rfl
    rw [this]
    exact fold_up ms _
theorem fold_dn : ∀ (ms : List Int) (a : Option Int), foldA sLeast a ms = ms.foldl Win.dnM a
  | [], a => rfl
  | m :: ms, a => by
    show foldA sLeast (stepA sLeast a m) ms = ms.foldl Win.dnM (Win.dnM a m)
    have : stepA sLeast a m = Win.dnM a m := by
      cases a with
      | none => rfl
      | some i => rfl
    rw [this]
    exact fold_dn ms _
theorem fold_count : ∀ (ms : List (List Nat)) (i : Int), foldA wcount (some i) (ms.map fun _ => 1) = some (i + ms.length)
  | [], i => by simp [foldA]
  | m :: ms, i => by
    show foldA wcount (some (i + 1)) (ms.map fun _ => 1) = _
    rw [fold_count ms, List.length_cons]
    congr 1
    omega
theorem amtL_eq (W : List Int) (s : List Nat) (R : List Nat) (num : Int) : (wins W s num R).map (amtL W s R) = ((wins W s num R).map (sub R)).map fun t => if s = sSize then total W t else (t.length : Int) := by
  rw [List.map_map]
  apply List.map_congr_left
  intro p hp
  have hp2 := mem_pairs (List.mem_filter.mp hp).1
  show amtL W s R p = if s = sSize then total W (sub R p) else ((sub R p).length : Int)
  unfold amtL
  split
  · rfl
  · rw [sub_length R p hp2]; omega
end ViLaw

set_option maxRecDepth 100000
set_option maxHeartbeats 1000000
set_option linter.all false
namespace ViLaw
open Vi
theorem ansT_best {no : T} {r : Option Int} {wl : List (Nat × Nat)} (hr : r = none ↔ wl = []) : ansT no r = if wl = [] then no else (r.map T.int).getD .und := by
  cases r with
  | none => rw [if_pos (hr.mp rfl)]; rfl
  | some m =>
    rw [if_neg (fun z => by have := hr.mpr z; cases this)]
    rfl
theorem none_max {l : List Int} : maxI l = none ↔ l = [] := by
  constructor
  · intro h
    have := Win.isMax_maxI l
    rw [h] at this
    exact this
  · intro h; subst h; rfl
theorem none_min {l : List Int} : minI l = none ↔ l = [] := by
  constructor
  · intro h
    have := Win.isMin_minI l
    rw [h] at this
    exact this
  · intro h; subst h; rfl
theorem max_eq {W : List Int} (hW : WOk W) {s : List Nat} (hs : narrow s) (num : Int) {R : List Nat} (hR : ROk W R) (f : List Nat → Int) (hf : ∀ t, f t = if s = sSize then total W t else (t.length : Int)) :
    foldA sMost none (((Win.allF num.toNat [] R).filter (fitB W s num)).map f) = maxI ((wins W s num R).map (amtL W s R)) := by
  rw [fold_up, amtL_eq]
  have e : (fun t : List Nat => if s = sSize then total W t else (t.length : Int)) = f := by funext t; rw [hf]
  rw [e]
  have h1 := Win.isMax_fold (((Win.allF num.toNat [] R).filter (fitB W s num)).map f) [] none rfl
  rw [List.nil_append] at h1
  exact h1.uniq (Win.isMax_maxI _) (mem_fit hW hs num hR f)
theorem min_eq {W : List Int} (hW : WOk W) {s : List Nat} (hs : narrow s) (num : Int) {R : List Nat} (hR : ROk W R) (f : List Nat → Int) (hf : ∀ t, f t = if s = sSize then total W t else (t.length : Int)) :
    foldA sLeast none (((Win.allF num.toNat [] R).filter (fitB W s num)).map f) = minI ((wins W s num R).map (amtL W s R)) := by
  rw [fold_dn, amtL_eq]
  have e : (fun t : List Nat => if s = sSize then total W t else (t.length : Int)) = f := by funext t; rw [hf]
  rw [e]
  have h1 := Win.isMin_fold (((Win.allF num.toNat [] R).filter (fitB W s num)).map f) [] none rfl
  rw [List.nil_append] at h1
  exact h1.uniq' (Win.isMin_minI _) (fun x hx => ⟨x, (mem_fit hW hs num hR f x).mp hx, Int.le_refl _⟩) (fun x hx => ⟨x, (mem_fit hW hs num hR f x).mpr hx, Int.le_refl _⟩)
theorem allF_len (n : Nat) : ∀ (R S t : List Nat), t ∈ Win.allF n S R → t.length ≤ n
  | [], S, t, h => by simp [Win.allF] at h
  | d :: R, S, t, h => by
    have h : t ∈ Win.tails (Win.lastN n (S ++ [d])) ++ Win.allF n (Win.lastN n (S ++ [d])) R := h
    rcases List.mem_append.mp h with h | h
    · obtain ⟨i, _, rfl⟩ := List.mem_map.mp h
      rw [List.length_drop]
      have : (Win.lastN n (S ++ [d])).length ≤ n := by
        unfold Win.lastN
        rw [List.length_drop]
        omega
      omega
    · exact allF_len n R _ t h
theorem total_append (W : List Int) (a b : List Nat) : total W (a ++ b) = total W a + total W b := by
  simp [total]
theorem min_least {W : List Int} (hW : WOk W) (num : Int) (hn : 1 ≤ num) {R : List Nat} (hR : ROk W R) :
    foldA sLeast none (((Win.allF num.toNat [] R).filter (fitB W sLeast num)).map fun t => (t.length : Int)) = minI ((wins W sLeast num R).map (amtL W sLeast R)) := by
  rw [fold_dn, amtL_eq]
  have e : (fun t : List Nat => if sLeast = sSize then total W t else (t.length : Int)) = fun t : List Nat => (t.length : Int) := by
    funext t
    rw [if_neg (by decide)]
  rw [e]
  have h1 := Win.isMin_fold (((Win.allF num.toNat [] R).filter (fitB W sLeast num)).map fun t => (t.length : Int)) [] none rfl
  rw [List.nil_append] at h1
  have key : ∀ x : Int, x ≤ num → (x ∈ (((Win.allF num.toNat [] R).filter (fitB W sLeast num)).map fun t => (t.length : Int)) ↔ x ∈ (((wins W sLeast num R).map (sub R)).map fun t => (t.length : Int))) := fun x hx => by
    have := count_fit hW (s := sLeast) num hR (fun t => decide ((t.length : Int) = x)) (fun t _ _ h => by
      have := of_decide_eq_true h
      omega)
    have a : ∀ l : List (List Nat), x ∈ (l.map fun t => (t.length : Int)) ↔ 0 < l.countP fun t => decide ((t.length : Int) = x) := fun l => by
      rw [List.countP_pos_iff, List.mem_map]
      simp
    rw [a, a, this]
  refine h1.uniq' (Win.isMin_minI _) (fun x hx => ?_) (fun x hx => ?_)
  · obtain ⟨t, ht, rfl⟩ := List.mem_map.mp hx
    have := allF_len _ _ _ _ (List.mem_filter.mp ht).1
    exact ⟨_, (key _ (by omega)).mp hx, Int.le_refl _⟩
  · by_cases hle : x ≤ num
    · exact ⟨x, (key x hle).mpr hx, Int.le_refl _⟩
    · refine ⟨num, (key num (Int.le_refl _)).mpr ?_, by omega⟩
      obtain ⟨t, ht, rfl⟩ := List.mem_map.mp hx
      obtain ⟨p, hp, rfl⟩ := List.mem_map.mp ht
      have hp0 := mem_pairs (List.mem_filter.mp hp).1
      have hsl := sub_length R p hp0
      refine List.mem_map.mpr ⟨sub R (p.2 - num.toNat, p.2), List.mem_map.mpr ⟨(p.2 - num.toNat, p.2), ?_, rfl⟩, ?_⟩
      · refine List.mem_filter.mpr ⟨?_, ?_⟩
        · unfold pairs
          refine List.mem_flatMap.mpr ⟨p.2 - num.toNat, by rw [List.mem_range]; omega, List.mem_map.mpr ⟨num.toNat - 1, by rw [List.mem_range]; omega, ?_⟩⟩
          have : p.2 - num.toNat + 1 + (num.toNat - 1) = p.2 := by omega
          rw [this]
        · have hl := total_len hW (hR.window (p.2 - num.toNat, p.2))
          have hs2 := sub_length R (p.2 - num.toNat, p.2) ⟨by show p.2 - num.toNat < p.2; omega, hp0.2⟩
          show decide (num ≤ total W (sub R (p.2 - num.toNat, p.2))) = true
          rw [decide_eq_true_eq]
          have : p.2 - (p.2 - num.toNat) = num.toNat := by omega
          rw [this] at hs2
          omega
      · have hs2 := sub_length R (p.2 - num.toNat, p.2) ⟨by show p.2 - num.toNat < p.2; omega, hp0.2⟩
        show ((sub R (p.2 - num.toNat, p.2)).length : Int) = num
        have : p.2 - (p.2 - num.toNat) = num.toNat := by omega
        rw [this] at hs2
        omega
theorem law_ans (W : List Int) (k s : List Nat) (num : Int) (no : T) (R : List Nat) (hW : WOk W) (hR : ROk W R) (h : KOk k s no) (h1 : 1 ≤ num) : ansT no (answerOf W k s num R) = bestA W k s num no R := by
  unfold answerOf
  rw [ans_all]
  have nn : ∀ l : List (Nat × Nat), (l.map (amtL W s R)) = [] ↔ l = [] := fun l => List.map_eq_nil_iff
  rcases h with ⟨rfl, hs, _⟩ | ⟨rfl, hs, _⟩ | ⟨rfl, hs, _⟩ | ⟨rfl, rfl, _⟩ | ⟨rfl, rfl, _⟩
  · have hs2 : narrow s := by rcases hs with rfl | rfl <;> simp [narrow]
    have hs3 : s ≠ sSize := by rcases hs with rfl | rfl <;> decide
    have e := max_eq hW hs2 num hR (amount W kLong) (fun t => by rw [if_neg hs3]; rfl)
    show ansT no (foldA sMost none _) = if wins W s num R = [] then no else ((maxI _).map T.int).getD .und
    rw [e]
    exact ansT_best (none_max.trans (nn _))
  · show ansT no (foldA sLeast none _) = if wins W s num R = [] then no else ((minI _).map T.int).getD .und
    rcases hs with rfl | rfl
    · have e := min_least hW num h1 hR
      have e2 : amount W kShort = fun t => (t.length : Int) := by funext t; rfl
      rw [e2, e]
      exact ansT_best (none_min.trans (nn _))
    · have e := min_eq hW (s := sJust) (.inr (.inr rfl)) num hR (amount W kShort) (fun t => by rw [if_neg (by decide)]; rfl)
      rw [e]
      exact ansT_best (none_min.trans (nn _))
  · have hs2 : narrow s := by rcases hs with rfl | rfl <;> simp [narrow]
    show ansT no (foldA wcount (some 0) _) = .int ((wins W s num R).length : Nat)
    have e2 : amount W kNum = fun _ => 1 := by funext t; rfl
    rw [e2, fold_count]
    have := count_fit hW num hR (fun _ => true) (fun t h1 h2 _ => fit_len hW hs2 h1 h2)
    rw [List.countP_true, List.length_map] at this
    rw [this]
    show T.int (0 + _) = _
    congr 1
    omega
  · have e := max_eq hW (s := sSize) (.inl rfl) num hR (amount W kGreat) (fun t => by rw [if_pos rfl]; rfl)
    show ansT no (foldA sMost none _) = if wins W sSize num R = [] then no else ((maxI _).map T.int).getD .und
    rw [e]
    exact ansT_best (none_max.trans (nn _))
  · have e := min_eq hW (s := sSize) (.inl rfl) num hR (amount W kSmall) (fun t => by rw [if_pos rfl]; rfl)
    show ansT no (foldA sLeast none _) = if wins W sSize num R = [] then no else ((minI _).map T.int).getD .und
    rw [e]
    exact ansT_best (none_min.trans (nn _))
end ViLaw

set_option maxRecDepth 100000
set_option maxHeartbeats 1000000
set_option linter.all false
namespace ViLaw
open Vi
theorem runF_W : ∀ (l : List T) (a : List Int) (p : Int × Int), (∀ w ∈ a, 1 ≤ w ∧ w ≤ 3) → ∃ (W : List Int) (q : Int × Int), l.foldl (fun (p : List T × (Int × Int)) x => (p.1 ++ [gW x p.2], sW x p.2)) (a.map .int, p) = (W.map .int, q) ∧ (∀ w ∈ W, 1 ≤ w ∧ w ≤ 3) ∧ W.length = a.length + l.length
  | [], a, p, h => ⟨a, p, rfl, h, rfl⟩
  | x :: l, a, p, h => by
    have hd := drawV_lt p 3 (by omega)
    obtain ⟨W, q, h1, h2, h3⟩ := runF_W l (a ++ [1 + drawV p 3]) (drawS p 3) (fun w hw => by
      rcases List.mem_append.mp hw with hw | hw
      · exact h w hw
      · simp at hw; omega)
    refine ⟨W, q, ?_, h2, ?_⟩
    · rw [List.foldl_cons]
      rw [List.map_append] at h1
      exact h1
    · rw [h3, List.length_append, List.length_cons, List.length_cons, List.length_nil]; omega
theorem worths_ok (n : Nat) (p : Int × Int) : ∃ (W : List Int) (q : Int × Int), WOk W ∧ prog.tab (n + 2) 23 [srcT p] = .ret (tupI W) [some (srcT q)] := by
  have hd := drawV_lt p 3 (by omega)
  obtain ⟨W, q, h1, h2, h3⟩ := runF_W (upto 0 (1 + drawV p 3)) [] (drawS p 3) (fun w hw => by simp at hw)
  have hl : (upto 0 (1 + drawV p 3)).length = (1 + drawV p 3).toNat := by unfold upto; rw [List.length_map, List.length_range]; congr 1; omega
  rw [hl] at h3
  refine ⟨W, q, ⟨by rw [h3]; show 1 ≤ 0 + _; omega, by rw [h3]; show 0 + _ ≤ 3; omega, h2⟩, ?_⟩
  have k := t_worths n p
  have e : worthsOf p = (W.map .int, q) := by
    unfold worthsOf runF
    exact h1
  rw [e] at k
  exact k
theorem rowN_ok (p : Int × Int) (m : Nat) (h : 1 ≤ m) : ∀ c ∈ (rowN p m).1, 97 ≤ c ∧ c - 97 < m := by
  have aux : ∀ (l : List T) (a : List Nat) (p : Int × Int), (∀ c ∈ a, 97 ≤ c ∧ c - 97 < m) → ∀ c ∈ (l.foldl (fun (q : List Nat × (Int × Int)) _ => (q.1 ++ [97 + (drawV q.2 m).toNat], drawS q.2 m)) (a, p)).1, 97 ≤ c ∧ c - 97 < m := by
    intro l
    induction l with
    | nil => intro a p h; exact h
    | cons x l ih =>
      intro a p ha
      rw [List.foldl_cons]
      refine ih _ _ fun c hc => ?_
      rcases List.mem_append.mp hc with hc | hc
      · exact ha c hc
      · have hd := drawV_lt p m (by omega)
        simp at hc
        omega
  exact aux _ [] _ (fun c hc => by simp at hc)
theorem row_ok (n : Nat) (p : Int × Int) (W : List Int) (hW : WOk W) : ∃ (R : List Nat) (q : Int × Int), ROk W R ∧ R.length ≤ 16 ∧ prog.tab (n + 2) 24 [srcT p, tupI W, .int 16] = .ret (.str R) [some (srcT q), none, none] := by
  have k := t_row n p (W.map .int) (by rw [List.length_map]; exact hW.1) (by rw [List.length_map]; exact hW.2.1)
  rw [List.length_map] at k
  have h1 := rowN_ok p W.length hW.1
  refine ⟨_, _, fun c hc => ?_, rowN_len p _, k⟩
  obtain ⟨a, b⟩ := h1 c hc
  exact ⟨a, b, by have := hW.2.1; omega⟩
theorem cmp_er {c : Cfg} {op : Cop} {a : E} {i : Nat} {e e1 : Env} {t u : T} {b : Bool} (ha : isRd a = none) (h : ev c a e = .ok t e1) (hb : (e1[i]?).bind id = some u) (hc : cmpT op t u = some b) : ev c (.cmp op a (.rd i)) e = .ok (.bl b) e1 := by
  show ((opd (isRd a) (ev c a) e).bind fun o e => (opd (isRd (.rd i)) (ev c (.rd i)) e).bind fun p e => fin2 o p (fun x y => (cmpT op x y).map .bl) e) = _
  rw [ha]
  show (((ev c a e).bind fun t e => Vi.R.ok (O.v t) e).bind _) = _
  rw [h]
  show ((opd (some i) (ev c (.rd i)) e1).bind fun p e => fin2 (O.v t) p (fun x y => (cmpT op x y).map .bl) e) = _
  unfold opd
  simp only [hb]
  show (match (some t : Option T), (e1[i]?).bind id with
    | some t, some u => need ((cmpT op t u).map T.bl) e1
    | _, _ => .no) = _
  rw [hb]
  show need ((cmpT op t u).map T.bl) e1 = _
  rw [hc]
  rfl
theorem eqbs_pairs : ∀ l : List (Nat × Nat), eqbs (l.map pairT) (l.map pairT) = true
  | [] => rfl
  | p :: l => by
    show (eqb (pairT p) (pairT p) && eqbs (l.map pairT) (l.map pairT)) = true
    rw [eqbs_pairs l]
    simp [pairT, eqb, eqbs]
theorem ans_kind (W : List Int) (k s : List Nat) (num : Int) (no : T) (R : List Nat) (hno : no = .non ∨ ∃ i, no = .int i) : ansT no (answerOf W k s num R) = .non ∨ ∃ i, ansT no (answerOf W k s num R) = .int i := by
  cases answerOf W k s num R with
  | none => exact hno
  | some i => exact .inr ⟨i, rfl⟩
def agB : Ss := (.cons (.asg 7 (.call 24 (.mut 2 (.val (.var 5) (.val (.cst (.int 16)) .nil))))) (.cons (.asgT (.tp (.cons (.nm 9) (.cons (.nm 10) .nil))) (.call 26 (.val (.var 5) (.val (.var 6) (.val (.var 7) .nil))))) (.cons (.asg 8 (.call 19 (.val (.var 5) (.val (.var 6) (.val (.var 7) .nil))))) (.cons (.ifs (.or (.cons (.cmp .ne (.call 18 (.val (.var 5) (.val (.var 6) (.val (.var 7) .nil)))) (.rd 9)) (.cons (.cmp .ne (.rd 8) (.rd 10)) (.cons (.not (.isi .list (.rd 8))) .nil)))) (.cons (.ret (.cst (.bl false))) .nil) .nil) (.cons (.ifs (.and (.cons (.notN (.rd 9)) (.cons (.isi .bool (.call 18 (.val (.var 5) (.val (.var 6) (.val (.var 7) .nil))))) .nil))) (.cons (.ret (.cst (.bl false))) .nil) .nil) .nil)))))
def lwEnv (ns : List Int) (x1 : Option T) (p : Int × Int) (x3 x4 x5 x6 x7 x8 x9 x10 : Option T) : Env := [some (intsT ns), x1, some (srcT p), x3, x4, x5, x6, x7, x8, x9, x10]
theorem asgT_of {c : Cfg} {tg : Tg} {a : E} {e e1 e2 : Env} {t : T} (hr : isRd a = none) (h : ev c a e = .ok t e1) (h2 : asg tg (fz t) e1 = .ok () e2) : ex c (.asgT tg a) e = .ok .nx e2 := by
  show ((strong (isRd a) (ev c a) e).bind fun t e => (asg tg (fz t) e).bind fun _ e => Vi.R.ok Fl.nx e) = _
  rw [hr]
  show ((ev c a e).bind fun t e => (asg tg (fz t) e).bind fun _ e => Vi.R.ok Fl.nx e) = _
  rw [h]
  show ((asg tg (fz t) e1).bind fun _ e => Vi.R.ok Fl.nx e) = _
  rw [h2]
  rfl
theorem ag_step (n : Nat) (ns : List Int) (x1 x3 x4 x7 x8 x9 x10 : Option T) (p : Int × Int) (W : List Int) (k s : List Nat) (num : Int) (no : T) (hW : WOk W) (h : KOk k s no) (h1 : 1 ≤ num) (h2 : num ≤ 5) :
    ∃ q y7 y8 y9 y10, exs (Cfg.mk gl (prog.tab (n + 6))) agB (lwEnv ns x1 p x3 x4 (some (tupI W)) (some (wishT k s num no)) x7 x8 x9 x10) = .ok .nx (lwEnv ns x1 q x3 x4 (some (tupI W)) (some (wishT k s num no)) y7 y8 y9 y10) := by
  obtain ⟨R, q, hR, hl, kr⟩ := row_ok (n + 4) p W hW
  have hs : SOk s := by
    rcases h with ⟨_, h, _⟩ | ⟨_, h, _⟩ | ⟨_, h, _⟩ | ⟨_, h, _⟩ | ⟨_, h, _⟩
    · rcases h with rfl | rfl <;> simp [SOk]
    · rcases h with rfl | rfl <;> simp [SOk]
    · rcases h with rfl | rfl <;> simp [SOk]
    · subst h; simp [SOk]
    · subst h; simp [SOk]
  have hno : no = .non ∨ ∃ i, no = .int i := by
    rcases h with ⟨_, _, h⟩ | ⟨_, _, h⟩ | ⟨_, _, h⟩ | ⟨_, _, h⟩ | ⟨_, _, h⟩
    · rcases h with rfl | rfl | rfl
      · exact .inl rfl
      · exact .inr ⟨_, rfl⟩
      · exact .inr ⟨_, rfl⟩
    · exact .inl h
    · exact .inr ⟨_, h⟩
    · rcases h with rfl | rfl | rfl
      · exact .inl rfl
      · exact .inr ⟨_, rfl⟩
      · exact .inr ⟨_, rfl⟩
    · exact .inl h
  have kb := t_best (n + 5) W R k s num no hR (by omega) hs hno
  have kf := t_fitting (n + 1) W R k s num no hW hR (by omega) h h1 h2
  have ka := t_right_answer n W R k s num no hW hR (by omega) h h1 h2
  have kd := ans_kind W k s num no R hno
  rw [← law_ans W k s num no R hW hR h h1] at kb
  generalize ansT no (answerOf W k s num R) = v at kb ka kd
  have d1 := dats_pairs 62 (wins W s num R)
  have d2 := eqbs_pairs (wins W s num R)
  generalize (wins W s num R).map pairT = L at kb kf d1 d2
  generalize he : lwEnv ns x1 q x3 x4 (some (tupI W)) (some (wishT k s num no)) (some (.str R)) (some (.lst true L)) (some v) (some (.lst false L)) = E1
  have cv : cmpT .ne v v = some false := by
    rcases kd with rfl | ⟨i, rfl⟩
    · rfl
    · simp [cmpT, dat, eqb]
  have e4 : ev (Cfg.mk gl (prog.tab (n + 6))) (.call 18 (.val (.var 5) (.val (.var 6) (.val (.var 7) .nil)))) E1 = .ok v E1 := by
    subst he
    exact Eq.trans (ev_call_of rfl rfl rfl ka) rfl
  refine ⟨q, some (.str R), some (.lst true L), some v, some (.lst false L), ?_⟩
  refine exs_nx (e1 := lwEnv ns x1 q x3 x4 (some (tupI W)) (some (wishT k s num no)) (some (.str R)) x8 x9 x10) (asg_of rfl (ev_call_of rfl rfl rfl kr) rfl) ?_
  refine exs_nx (e1 := lwEnv ns x1 q x3 x4 (some (tupI W)) (some (wishT k s num no)) (some (.str R)) x8 (some v) (some (.lst false L))) (asgT_of rfl (ev_call_of rfl rfl rfl kb) ?_) ?_
  · rcases kd with rfl | ⟨i, rfl⟩ <;> rfl
  refine exs_nx (e1 := E1) ?_ ?_
  · subst he
    exact asg_of rfl (ev_call_of rfl rfl rfl kf) rfl
  rw [he]
  refine exs_nx (e1 := E1) (ifs_f rfl (or_next rfl (cmp_er rfl e4 (u := v) ?_ cv) rfl (or_next rfl (t := .bl false) (e1 := E1) ?_ rfl (or_last rfl (e := E1) (r := .ok (.bl false) E1) ?_))) rfl) (exs_nx (e1 := E1) ?_ rfl)
  · subst he; rfl
  · subst he
    show need ((if (dats 63 L && dats 63 L) = true then some (!eqbs L L) else none).map T.bl) _ = _
    rw [d1, d2]
    rfl
  · subst he; rfl
  · rcases kd with rfl | ⟨i, rfl⟩
    · refine ifs_f rfl (e1 := E1) ?_ rfl
      subst he
      rfl
    · refine ifs_f rfl (e1 := E1) (and_next rfl (t := .bl true) (e1 := E1) ?_ rfl (and_last rfl ?_)) rfl
      · subst he; rfl
      · show (((ev _ _ E1).bind fun t e => Vi.R.ok (O.v t) e).bind fun o e => fin1 o (fun t => (isiT .bool t).map T.bl) e) = _
        rw [e4]
        rfl
end ViLaw

set_option maxRecDepth 100000
set_option maxHeartbeats 1000000
set_option linter.all false
namespace ViLaw
open Vi
theorem b2_of {c : Cfg} {f : B2} {a b : E} {e e1 e2 : Env} {t u r : T} (ha : isRd a = none) (hb : isRd b = none) (h : ev c a e = .ok t e1) (h2 : ev c b e1 = .ok u e2) (hc : b2T f t u = some r) : ev c (.b2 f a b) e = .ok r e2 := by
  show ((opd (isRd a) (ev c a) e).bind fun o e => (opd (isRd b) (ev c b) e).bind fun p e => fin2 o p (b2T f) e) = _
  rw [ha, hb]
  show (((ev c a e).bind fun t e => Vi.R.ok (O.v t) e).bind _) = _
  rw [h]
  show (((ev c b e1).bind fun t e => Vi.R.ok (O.v t) e).bind _) = _
  rw [h2]
  show need (b2T f t u) e2 = _
  rw [hc]
  rfl
theorem bin_of {c : Cfg} {op : Bop} {a b : E} {e e1 e2 : Env} {t u r : T} (ha : isRd a = none) (hb : isRd b = none) (h : ev c a e = .ok t e1) (h2 : ev c b e1 = .ok u e2) (hc : binT op t u = some r) : ev c (.bin op a b) e = .ok r e2 := by
  show ((opd (isRd a) (ev c a) e).bind fun o e => (opd (isRd b) (ev c b) e).bind fun p e => fin2 o p (binT op) e) = _
  rw [ha, hb]
  show (((ev c a e).bind fun t e => Vi.R.ok (O.v t) e).bind _) = _
  rw [h]
  show (((ev c b e1).bind fun t e => Vi.R.ok (O.v t) e).bind _) = _
  rw [h2]
  show need (binT op t u) e2 = _
  rw [hc]
  rfl
theorem ag_loop (n : Nat) (ns : List Int) (x1 x3 : Option T) (W : List Int) (k s : List Nat) (num : Int) (no : T) (hW : WOk W) (h : KOk k s no) (h1 : 1 ≤ num) (h2 : num ≤ 5) : ∀ (l : List T) (x4 x7 x8 x9 x10 : Option T) (p : Int × Int),
    ∃ q y4 y7 y8 y9 y10, forL (asg (.nm 4)) (exs (Cfg.mk gl (prog.tab (n + 6))) agB) l (lwEnv ns x1 p x3 x4 (some (tupI W)) (some (wishT k s num no)) x7 x8 x9 x10) = .ok .nx (lwEnv ns x1 q x3 y4 (some (tupI W)) (some (wishT k s num no)) y7 y8 y9 y10)
  | [], x4, x7, x8, x9, x10, p => ⟨p, x4, x7, x8, x9, x10, rfl⟩
  | x :: l, x4, x7, x8, x9, x10, p => by
    obtain ⟨q, z7, z8, z9, z10, e1⟩ := ag_step n ns x1 x3 (some x) x7 x8 x9 x10 p W k s num no hW h h1 h2
    obtain ⟨q2, y4, y7, y8, y9, y10, e2⟩ := ag_loop n ns x1 x3 W k s num no hW h h1 h2 l (some x) z7 z8 z9 z10 q
    refine ⟨q2, y4, y7, y8, y9, y10, ?_⟩
    rw [forL_cons (e1 := lwEnv ns x1 p x3 (some x) (some (tupI W)) (some (wishT k s num no)) x7 x8 x9 x10) rfl e1, e2]
def tuB : Ss := (.cons (.par [5, 6] (.cons (.call 23 (.mut 2 .nil)) (.cons (.call 25 (.mut 2 (.val (.cst (.str [])) .nil))) .nil))) (.cons (.for (.nm 4) (.rng (.cst (.int 6))) agB) .nil))
theorem evk_cons {c : Cfg} {a : E} {es : Es} {e e1 e2 : Env} {t : T} {l : List T} (hr : isRd a = none) (h : ev c a e = .ok t e1) (h2 : evk c es e1 = .ok l e2) : evk c (.cons a es) e = .ok (t :: l) e2 := by
  show ((strong (isRd a) (ev c a) e).bind fun t e => (evk c es e).bind fun l e => Vi.R.ok (t :: l) e) = _
  rw [hr]
  show ((ev c a e).bind _) = _
  rw [h]
  show ((evk c es e1).bind _) = _
  rw [h2]; rfl
theorem par_of {c : Cfg} {is : List Nat} {es : Es} {e e1 e2 : Env} {l : List T} (h : evk c es e = .ok l e1) (h2 : parM is l e1 = .ok () e2) : ex c (.par is es) e = .ok .nx e2 := by
  show ((evk c es e).bind fun l e => (parM is l e).bind fun _ e => Vi.R.ok Fl.nx e) = _
  rw [h]
  show ((parM is l e1).bind fun _ e => Vi.R.ok Fl.nx e) = _
  rw [h2]; rfl
theorem for_of {c : Cfg} {tg : Tg} {it : It} {b : Ss} {e e1 e2 : Env} {l : List T} (h : evi c it e = .ok l e1) (h2 : forL (asg tg) (exs c b) l e1 = .ok .nx e2) : ex c (.for tg it b) e = .ok .nx e2 := by
  show ((evi c it e).bind fun l e => forL (asg tg) (exs c b) l e) = _
  rw [h]
  exact h2
theorem tu_step (n : Nat) (ns : List Int) (x1 x3 x4 x5 x6 x7 x8 x9 x10 : Option T) (p : Int × Int) :
    ∃ q y4 y5 y6 y7 y8 y9 y10, exs (Cfg.mk gl (prog.tab (n + 6))) tuB (lwEnv ns x1 p x3 x4 x5 x6 x7 x8 x9 x10) = .ok .nx (lwEnv ns x1 q x3 y4 y5 y6 y7 y8 y9 y10) := by
  obtain ⟨W, q1, hW, k1⟩ := worths_ok (n + 4) p
  obtain ⟨k, s, num, no, q2, h, h1, h2, k2⟩ := t_wish (n + 3) q1
  obtain ⟨q3, y4, y7, y8, y9, y10, e⟩ := ag_loop n ns x1 x3 W k s num no hW h h1 h2 (upto 0 6) x4 x7 x8 x9 x10 q2
  refine ⟨q3, y4, _, _, y7, y8, y9, y10, exs_nx (e1 := lwEnv ns x1 q2 x3 x4 (some (tupI W)) (some (wishT k s num no)) x7 x8 x9 x10) (par_of (evk_cons rfl (ev_call_of rfl rfl rfl k1) (evk_cons rfl (ev_call_of rfl rfl rfl k2) rfl)) rfl) (exs_nx (for_of (evi_rng rfl rfl (rngT_ok (by decide) (by decide))) e) rfl)⟩
theorem tu_loop (n : Nat) (ns : List Int) (x1 : Option T) : ∀ (l : List T) (x3 x4 x5 x6 x7 x8 x9 x10 : Option T) (p : Int × Int),
    ∃ q y3 y4 y5 y6 y7 y8 y9 y10, forL (asg (.nm 3)) (exs (Cfg.mk gl (prog.tab (n + 6))) tuB) l (lwEnv ns x1 p x3 x4 x5 x6 x7 x8 x9 x10) = .ok .nx (lwEnv ns x1 q y3 y4 y5 y6 y7 y8 y9 y10)
  | [], x3, x4, x5, x6, x7, x8, x9, x10, p => ⟨p, x3, x4, x5, x6, x7, x8, x9, x10, rfl⟩
  | x :: l, x3, x4, x5, x6, x7, x8, x9, x10, p => by
    obtain ⟨q, z4, z5, z6, z7, z8, z9, z10, e1⟩ := tu_step n ns x1 (some x) x4 x5 x6 x7 x8 x9 x10 p
    obtain ⟨q2, y3, y4, y5, y6, y7, y8, y9, y10, e2⟩ := tu_loop n ns x1 l (some x) z4 z5 z6 z7 z8 z9 z10 q
    refine ⟨q2, y3, y4, y5, y6, y7, y8, y9, y10, ?_⟩
    rw [forL_cons (e1 := lwEnv ns x1 p (some x) x4 x5 x6 x7 x8 x9 x10) rfl e1, e2]
def kB : Ss := (.cons (.asg 2 (.call 20 (.val (.var 0) (.val (.var 1) .nil)))) (.cons (.for (.nm 3) (.rng (.cst (.int 3))) tuB) .nil))
def kEnv (ns : List Int) (x1 x2 x3 x4 x5 x6 x7 x8 x9 x10 : Option T) : Env := [some (intsT ns), x1, x2, x3, x4, x5, x6, x7, x8, x9, x10]
theorem k_loop (n : Nat) (ns : List Int) (hn : ns.length ≤ 63) : ∀ (l : List Nat) (x1 x2 x3 x4 x5 x6 x7 x8 x9 x10 : Option T),
    ∃ y1 y2 y3 y4 y5 y6 y7 y8 y9 y10, forL (asg (.nm 1)) (exs (Cfg.mk gl (prog.tab (n + 6))) kB) (l.map fun k => .int (k : Nat)) (kEnv ns x1 x2 x3 x4 x5 x6 x7 x8 x9 x10) = .ok .nx (kEnv ns y1 y2 y3 y4 y5 y6 y7 y8 y9 y10)
  | [], x1, x2, x3, x4, x5, x6, x7, x8, x9, x10 => ⟨x1, x2, x3, x4, x5, x6, x7, x8, x9, x10, rfl⟩
  | x :: l, x1, x2, x3, x4, x5, x6, x7, x8, x9, x10 => by
    have k1 := t_source (n + 5) ns x hn
    obtain ⟨q, z3, z4, z5, z6, z7, z8, z9, z10, e1⟩ := tu_loop n ns (some (.int (x : Nat))) (upto 0 3) x3 x4 x5 x6 x7 x8 x9 x10 (srcOf (cellOf ns x) x)
    obtain ⟨y1, y2, y3, y4, y5, y6, y7, y8, y9, y10, e2⟩ := k_loop n ns hn l (some (.int (x : Nat))) (some (srcT q)) z3 z4 z5 z6 z7 z8 z9 z10
    refine ⟨y1, y2, y3, y4, y5, y6, y7, y8, y9, y10, ?_⟩
    have e3 : exs (Cfg.mk gl (prog.tab (n + 6))) kB (kEnv ns (some (.int (x : Nat))) x2 x3 x4 x5 x6 x7 x8 x9 x10) = .ok .nx (kEnv ns (some (.int (x : Nat))) (some (srcT q)) z3 z4 z5 z6 z7 z8 z9 z10) :=
      exs_nx (e1 := lwEnv ns (some (.int (x : Nat))) (srcOf (cellOf ns x) x) x3 x4 x5 x6 x7 x8 x9 x10) (asg_of rfl (ev_call_of rfl rfl rfl k1) rfl) (exs_nx (for_of (evi_rng rfl rfl (rngT_ok (by decide) (by decide))) e1) rfl)
    rw [List.map_cons, forL_cons (e1 := kEnv ns (some (.int (x : Nat))) x2 x3 x4 x5 x6 x7 x8 x9 x10) rfl e3, e2]
def endS : Ss := (.cons (.ifs (.cmp .ne (.call 18 (.val (.tup (.cons (.cst (.int 1)) (.cons (.cst (.int 2)) (.cons (.cst (.int 3)) .nil)))) (.val (.tup (.cons (.cst (.str [103, 114, 101, 97, 116, 101, 115, 116])) (.cons (.cst (.str [115, 105, 122, 101])) (.cons (.cst (.int 2)) (.cons (.neg (.cst (.int 1))) .nil))))) (.val (.cst (.str [99, 97, 98])) .nil)))) (.cst (.int 4))) (.cons (.ret (.cst (.bl false))) .nil) .nil) (.cons (.ifs (.cmp .ne (.call 19 (.val (.tup (.cons (.cst (.int 3)) .nil)) (.val (.tup (.cons (.cst (.str [110, 117, 109, 98, 101, 114])) (.cons (.cst (.str [109, 111, 115, 116])) (.cons (.cst (.int 2)) (.cons (.cst (.int 0)) .nil))))) (.val (.cst (.str [97, 97])) .nil)))) (.lst .nil)) (.cons (.ret (.cst (.bl false))) .nil) .nil) (.cons (.ret (.isN (.call 18 (.val (.tup (.cons (.cst (.int 1)) .nil)) (.val (.tup (.cons (.cst (.str [115, 109, 97, 108, 108, 101, 115, 116])) (.cons (.cst (.str [115, 105, 122, 101])) (.cons (.cst (.int 3)) (.cons (.cst .non) .nil))))) (.val (.cst (.str [97, 97])) .nil)))))) .nil)))
theorem end_ev (ns : List Int) (y1 y2 y3 y4 y5 y6 y7 y8 y9 y10 : Option T) : ∃ e, exs (Cfg.mk gl (prog.tab 11)) endS (kEnv ns y1 y2 y3 y4 y5 y6 y7 y8 y9 y10) = .ok (.ret (.bl true)) e := ⟨_, by rfl⟩
theorem law_true (ns : List Int) (hn : ns.length ≤ 63) : ∃ outs, prog.tab 12 27 [.lst false (ns.map .int)] = .ret (.bl true) outs := by
  rw [tabs 11 27 d_law _ rfl]
  obtain ⟨y1, y2, y3, y4, y5, y6, y7, y8, y9, y10, e1⟩ := k_loop 5 ns hn (List.range (1 + min ns.length 15)) none none none none none none none none none none
  obtain ⟨e, e2⟩ := end_ev ns y1 y2 y3 y4 y5 y6 y7 y8 y9 y10
  have h1 : ns.length ≤ line := by show _ ≤ 16777216; omega
  have hi : evi (Cfg.mk gl (prog.tab 11)) (.rng (.bin .add (.cst (.int 1)) (.b2 .min (.b1 .len (.rd 0)) (.cst (.int 15))))) (kEnv ns none none none none none none none none none none) = .ok ((List.range (1 + min ns.length 15)).map fun k => .int (k : Nat)) (kEnv ns none none none none none none none none none none) := by
    refine evi_rng (t := .int ((1 + min ns.length 15 : Nat) : Int)) rfl ?_ ?_
    · have hlen : ev (Cfg.mk gl (prog.tab 11)) (.b1 .len (.rd 0)) (kEnv ns none none none none none none none none none none) = .ok (.int (ns.length : Nat)) (kEnv ns none none none none none none none none none none) := by
        show need (some (T.int ((ns.map T.int).length : Nat))) _ = _
        rw [List.length_map]
        rfl
      have hmin : ev (Cfg.mk gl (prog.tab 11)) (.b2 .min (.b1 .len (.rd 0)) (.cst (.int 15))) (kEnv ns none none none none none none none none none none) = .ok (.int (if 15 < ((ns.length : Nat) : Int) then 15 else ((ns.length : Nat) : Int))) (kEnv ns none none none none none none none none none none) := by
        exact b2_of rfl rfl hlen rfl rfl
      refine Eq.trans (bin_of rfl rfl rfl hmin rfl) ?_
      have : (1 + (if 15 < ((ns.length : Nat) : Int) then 15 else ((ns.length : Nat) : Int))) = ((1 + min ns.length 15 : Nat) : Int) := by
        split <;> omega
      rw [this]
    · rw [rngT_ok (by decide) (s62 (by omega) (by omega)), upto_out]
  refine ⟨_, run_ret (d := d_law) (t := .bl true) (e := e) rfl ?_⟩
  exact exs_nx (for_of hi e1) e2
end ViLaw

open PySem PySem.W PySem.Calls PyProof.Rows
theorem PySem.Challenge.cw_windowends_k04_right_answers_holds : PySem.Challenge.rw_windowends_k04_right_answers.Holds := by
  w_on; o_law
  refine HandSHeadRun.head_any (r := OpenLaw.row PySem.Challenge.rw_windowends_k04_right_answers) (q := view (OpenLaw.row PySem.Challenge.rw_windowends_k04_right_answers).prog [38]) (H := ViHead.hk) (ob := ViHead.ob) (M := 40000) (loose := ViHead.loose) (d := HandSHeadRun.topDef (OpenLaw.row PySem.Challenge.rw_windowends_k04_right_answers).prog 38) (kwd := []) ViHead.ob_eq
    (by kernel_rfl) (fun s => by kernel_rfl) ViHead.run (by kernel_rfl) (by kernel_rfl) (by kernel_rfl) (by rfl) (by first | assumption | decide +kernel) (by decide +kernel) ⟨rfl, rfl, rfl, rfl, rfl, by decide +kernel⟩ ?hw ?hc
  case hw => w_witness2
  case hc =>
    refine L2.walk_ofE (l := PySem.Challenge.rw_windowends_k04_right_answers) (n := 63) (k := 12) (x := "script") (CX := Vi.CXn) rfl (by decide) (by kernel_rfl) ⟨rfl, by decide, by decide⟩ ?F (fun _ _ _ _ z => z)
    intro w mg fa h Y G hmg0
    obtain ⟨K, KX, c⟩ := Y
    have hmg : mg ("law" : PySem.Str) = some (.ref fa) := by
      have e : (HandSHeadRun.topDef (OpenLaw.row PySem.Challenge.rw_windowends_k04_right_answers).prog 38).name = ("law" : PySem.Str) := by kernel_rfl
      rw [← e]
      exact hmg0
    obtain ⟨W⟩ := Vi.prog_ok (P := (PySem.Challenge.rw_windowends_k04_right_answers).prog) (w := w) KX G c ViHead.cfn
    have hl : ViLaw.prog.defs[27]? = some ViLaw.d_law := rfl
    have efa : W.fa 27 = fa := by
      have e := (W.at_ 27 ViLaw.d_law hl).symm.trans hmg
      cases e
      rfl
    have hF := fun base : Heap => Vi.all_defs (base := base) W 12 27 ViLaw.d_law hl
    subst efa
    exact ⟨K, (W.defs 27 ViLaw.d_law hl).fd, Vi.spV ⟨_, w, K⟩ 1 (ViLaw.prog.tab 12 27), KX, fun s u => Vi.law_bind (W.defs 27 ViLaw.d_law hl) rfl s u, fun H a ns hn _ hS => Vi.law_sp (ViLaw.law_true ns hn) hS, fun base _ _ => hF base⟩
