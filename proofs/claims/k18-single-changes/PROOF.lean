import PyProof.Rows.All
import Wide.All
import OpenK.AllK
import Wide.FinOn
import PySem.Str
import HandS.ForMost
import HandS.Exc
import HandS.ExcOwn
import HandS.TupAny
import HandS.Deep
import HandS.TupMul
import HandS.Flow
import HandS.Style
import HandS.Conv
import HandS.StrMore
import HandS.IsInst
import HandS.NoneIn
import HandS.WordsExc
import KE.KDictKeyed
import KE.KeyNested
import HandS.Iter
import HandS.More
import PyProof.StrLawsFirst
import HandS.Codes
import PyProof.ReprRoads
import PyProof.Rows.SortShellAny
import PyProof.Rows.StrMeet
import HandS.Defaults
import HandS.Ends
import KE.GoesMore
import HandS.Small
import KE.KStateDown
import HandS.Words
import HandS.Head0
import HandS.Head1
import HandS.Head2
import HandS.HeadEnd
import HandS.HeadHook1
import HandS.HeadHook2
import PySem.Challenge.RW_windowends_k18_single_changes
set_option autoImplicit false
/-! VI: a small language (E, S) and its meaning in plain values (T). Lists and dicts carry a flag: true, where the value is held by one variable alone. -/
namespace Vi

inductive T where
  | non | und
  | bl (b : Bool)
  | int (i : Int)
  | str (s : List Nat)
  | tup (l : List T)
  | lst (o : Bool) (l : List T)
  | dic (o : Bool) (l : List (T × T))
  deriving Inhabited

abbrev Env := List (Option T)

inductive R (α : Type) where
  | no
  | ok (a : α) (e : Env)
  | ex (c : Nat) (d : T) (e : Env)
abbrev M (α : Type) := Env → R α
def R.bind {α β : Type} (r : R α) (f : α → Env → R β) : R β := match r with
  | .no => .no
  | .ok a e => f a e
  | .ex c d e => .ex c d e
def M.ret {α : Type} (a : α) : M α := fun e => .ok a e

/-! ### values -/
def own : T → Bool
  | .lst o _ => o
  | .dic o _ => o
  | _ => false
def fz1 : T → T
  | .lst _ l => .lst false l
  | t => t
def fz : T → T
  | .lst _ l => .lst false l
  | .dic _ l => .dic false (l.map fun p => (p.1, fz1 p.2))
  | t => t
/-- what a second holder of a value may know of it -/
def sh1 : T → T
  | .lst true _ => .und
  | .dic true _ => .und
  | t => t

mutual
def keq : T → T → Bool
  | .non, .non => true
  | .int a, .int b => a == b
  | .str a, .str b => a == b
  | .tup a, .tup b => keqs a b
  | _, _ => false
def keqs : List T → List T → Bool
  | [], [] => true
  | a :: r, b :: q => keq a b && keqs r q
  | _, _ => false
end
mutual
/-- a part of a key, its depth at most n -/
def isPart : Nat → T → Bool
  | _, .non => true
  | _, .int _ => true
  | _, .str _ => true
  | n + 1, .tup l => isParts n l
  | _, _ => false
def isParts : Nat → List T → Bool
  | _, [] => true
  | n, a :: r => isPart n a && isParts n r
end
/-- keys: ints and texts (kind 0), tuples (kind 1) -/
def kind? : T → Option Bool
  | .int _ => some false
  | .str _ => some false
  | .tup l => if isParts 7 l then some true else none
  | _ => none
def kindD (l : List (T × T)) (k : T) : Bool := match kind? k with
  | none => false
  | some b => match l with
    | [] => true
    | p :: _ => kind? p.1 == some b
def dget : List (T × T) → T → Option T
  | [], _ => none
  | p :: r, k => if keq p.1 k then some p.2 else dget r k
def dhas (l : List (T × T)) (k : T) : Bool := l.any fun p => keq p.1 k
def dput (l : List (T × T)) (k v : T) : List (T × T) := if dhas l k then l.map fun p => if keq p.1 k then (p.1, v) else p else l ++ [(k, v)]
mutual
def eqb : T → T → Bool
  | .non, .non => true
  | .bl a, .bl b => a == b
  | .bl a, .int b => (if a then 1 else 0) == b
  | .int a, .bl b => a == (if b then 1 else 0)
  | .int a, .int b => a == b
  | .str a, .str b => a == b
  | .tup a, .tup b => eqbs a b
  | .lst _ a, .lst _ b => eqbs a b
  | _, _ => false
def eqbs : List T → List T → Bool
  | [], [] => true
  | a :: r, b :: q => eqb a b && eqbs r q
  | _, _ => false
end
mutual
/-- data to compare, its depth at most n -/
def dat : Nat → T → Bool
  | _, .und => false
  | _, .dic _ _ => false
  | 0, .tup _ => false
  | 0, .lst _ _ => false
  | n + 1, .tup l => dats n l
  | n + 1, .lst _ l => dats n l
  | _, _ => true
def dats : Nat → List T → Bool
  | _, [] => true
  | n, a :: r => dat n a && dats n r
end
def flat : T → Bool
  | .non => true
  | .bl _ => true
  | .int _ => true
  | .str _ => true
  | _ => false
def six (n d : Nat) : Option Int → Nat
  | none => d
  | some i => (if i < 0 then max (i + n) 0 else min i n).toNat
def cut {α : Type} (l : List α) (lo hi : Option Int) : List α := (l.drop (six l.length 0 lo)).take (six l.length l.length hi - six l.length 0 lo)
def ixn (n : Nat) (i : Int) : Option Nat := if 0 ≤ i then (if i < n then some i.toNat else none) else if -(n : Int) ≤ i then some (i + n).toNat else none
def atx {α : Type} (l : List α) (i : Int) : Option α := (ixn l.length i).bind fun j => l[j]?

inductive Bop where
  | add | sub | mul | fdiv | mod | pow
  deriving DecidableEq
inductive Cop where
  | eq | ne | lt | le | gt | ge | inn | nin
  deriving DecidableEq
inductive B1 where
  | len | int | abs | list | tuple | dict | str | all | any | sum | min | max | sorted | bool
  deriving DecidableEq
inductive B2 where
  | min | max
  deriving DecidableEq
/-- methods of a text, with one argument -/
inductive Mt where
  | join | index | split
  deriving DecidableEq
inductive Ty where
  | int | bool | str | tuple | list
  deriving DecidableEq

abbrev line : Nat := 16777216
def in64 (i : Int) : Bool := decide (-18446744073709551616 < i) && decide (i < 18446744073709551616)
def binT : Bop → T → T → Option T
  | .add, .int a, .int b => some (.int (a + b))
  | .add, .str a, .str b => if a.length + b.length ≤ line then some (.str (a ++ b)) else none
  | .add, .tup a, .tup b => if a.length + b.length ≤ line then some (.tup (a ++ b)) else none
  | .add, .lst _ a, .lst _ b => if a.length + b.length ≤ line then some (.lst true (a ++ b)) else none
  | .sub, .int a, .int b => some (.int (a - b))
  | .mul, .int a, .int b => if in64 a || in64 b then some (.int (a * b)) else none
  | .mul, .tup a, .int k => if a ≠ [] ∧ 2 ≤ k ∧ k ≤ 1000 ∧ a.length ≤ 1000 then some (.tup (List.replicate k.toNat a).flatten) else none
  | .mul, .str a, .int k => if a.length ≤ 1000 ∧ 0 ≤ k ∧ k ≤ 1000 then some (.str (List.replicate k.toNat a).flatten) else none
  | .fdiv, .int a, .int b => if 0 < b ∧ b < 1073741824 then some (.int (a / b)) else none
  | .mod, .int a, .int b => if 0 < b then some (.int (a % b)) else none
  | .pow, .int a, .int b => if 0 ≤ b ∧ b ≤ 1000000 ∧ a.natAbs < 18446744073709551616 then some (.int (a ^ b.toNat)) else none
  | _, _, _ => none
def negT : T → Option T
  | .int i => some (.int (-i))
  | _ => none
def tru : T → Option Bool
  | .non => some false
  | .bl b => some b
  | .int i => some (i != 0)
  | .str s => some (!s.isEmpty)
  | .tup l => some (!l.isEmpty)
  | .lst _ l => some (!l.isEmpty)
  | _ => none
def preS : List Nat → List Nat → Bool
  | [], _ => true
  | a :: r, b :: q => a == b && preS r q
  | _, _ => false
def subS (x : List Nat) : List Nat → Bool
  | [] => x.isEmpty
  | b :: q => preS x (b :: q) || subS x q
def inT : T → T → Option Bool
  | .str [c], .str s => some (s.contains c)
  | .str x, .str s => some (subS x s)
  | x, .tup l => if flat x && l.all flat then some (l.any fun y => eqb y x) else none
  | x, .lst _ l => if dat 60 x && dats 60 l then some (l.any fun y => eqb y x) else none
  | k, .dic _ l => if kindD l k then some (dget l k).isSome else none
  | _, _ => none
def cmpT : Cop → T → T → Option Bool
  | .eq, a, b => if dat 64 a && dat 64 b then some (eqb a b) else none
  | .ne, a, b => if dat 64 a && dat 64 b then some (!eqb a b) else none
  | .lt, .int a, .int b => some (decide (a < b))
  | .le, .int a, .int b => some (decide (a ≤ b))
  | .gt, .int a, .int b => some (decide (b < a))
  | .ge, .int a, .int b => some (decide (b ≤ a))
  | .lt, .str a, .str b => some (decide (a < b))
  | .gt, .str a, .str b => some (decide (b < a))
  | .le, .str a, .str b => some (!decide (b < a))
  | .ge, .str a, .str b => some (!decide (a < b))
  | .inn, a, b => inT a b
  | .nin, a, b => (inT a b).map (!·)
  | _, _, _ => none
def idxT : T → T → Option T
  | .tup l, .int i => atx l i
  | .lst _ l, .int i => atx l i
  | .str s, .int i => (atx s i).map fun c => .str [c]
  | .dic _ l, k => if kindD l k then (dget l k).map sh1 else none
  | _, _ => none
def sliT : T → Option Int → Option Int → Option T
  | .str s, lo, hi => some (.str (cut s lo hi))
  | .tup l, lo, hi => some (.tup (cut l lo hi))
  | .lst _ l, lo, hi => some (.lst true (cut l lo hi))
  | _, _, _ => none
def ints? : List T → Option (List Int)
  | [] => some []
  | .int i :: r => (ints? r).map (i :: ·)
  | _ => none
def bls? : List T → Option (List Bool)
  | [] => some []
  | .bl b :: r => (bls? r).map (b :: ·)
  | _ => none
def strs? : List T → Option (List (List Nat))
  | [] => some []
  | .str s :: r => (strs? r).map (s :: ·)
  | _ => none
def maxI : List Int → Option Int
  | [] => none
  | [a] => some a
  | a :: r => (maxI r).map fun b => if a < b then b else a
def minI : List Int → Option Int
  | [] => none
  | [a] => some a
  | a :: r => (minI r).map fun b => if b < a then b else a
def insS (a : List Nat) : List (List Nat) → List (List Nat)
  | [] => [a]
  | b :: r => if b < a then b :: insS a r else a :: b :: r
def sortS : List (List Nat) → List (List Nat)
  | [] => []
  | a :: r => insS a (sortS r)
def insI (a : Int) : List Int → List Int
  | [] => [a]
  | b :: r => if b < a then b :: insI a r else a :: b :: r
def sortI : List Int → List Int
  | [] => []
  | a :: r => insI a (sortI r)
def seq? : T → Option (List T)
  | .tup l => some l
  | .lst _ l => some l
  | _ => none
def tup? : T → Option (List T)
  | .tup l => some l
  | _ => none
/-- an int or a text as a key that is handed out -/
def okK0 : T → Bool
  | .int _ => true
  | .str s => decide (s.length ≤ line) && s.all fun c => decide (c < 1114112)
  | _ => false
/-- a text of one digit -/
def digit? : List Nat → Option Nat
  | [c] => if 48 ≤ c ∧ c ≤ 57 then some (c - 48) else none
  | _ => none
/-- -1 and the numbers of one digit, written -/
def digS (i : Int) : List Nat := if i < 0 then [45, 49] else [48 + i.toNat]
def joinS (sep : List Nat) : List (List Nat) → List Nat
  | [] => []
  | [a] => a
  | a :: r => a ++ sep ++ joinS sep r
/-- signs that repr writes as they are -/
def lowC (c : Nat) : Bool := decide (97 ≤ c) && decide (c ≤ 122)
mutual
/-- a nested tuple of None, truths, small numbers and words, written -/
def reprT : T → Option (List Nat)
  | .non => some [78, 111, 110, 101]
  | .bl b => some (if b then [84, 114, 117, 101] else [70, 97, 108, 115, 101])
  | .int i => if -1 ≤ i ∧ i ≤ 9 then some (digS i) else none
  | .str s => if s.all lowC then some (39 :: (s ++ [39])) else none
  | .tup l => (reprTs l).map fun zs => 40 :: (joinS [44, 32] zs ++ (if zs.length = 1 then [44, 41] else [41]))
  | _ => none
def reprTs : List T → Option (List (List Nat))
  | [] => some []
  | a :: r => (reprT a).bind fun x => (reprTs r).map (x :: ·)
end
def b1T : B1 → T → Option T
  | .len, .str s => if s.length ≤ line then some (.int s.length) else none
  | .len, .tup l => some (.int l.length)
  | .len, .lst _ l => some (.int l.length)
  | .int, .int i => some (.int i)
  | .int, .bl b => some (.int (if b then 1 else 0))
  | .int, .str s => (digit? s).map fun n => .int (n : Nat)
  | .str, .str s => some (.str s)
  | .str, .int i => if -1 ≤ i ∧ i ≤ 9 then some (.str (digS i)) else none
  | .str, .tup l => (reprTs l).bind fun zs => if dat 60 (.tup l) ∧ (40 :: (joinS [44, 32] zs ++ (if zs.length = 1 then [44, 41] else [41]))).length ≤ line then some (.str (40 :: (joinS [44, 32] zs ++ (if zs.length = 1 then [44, 41] else [41])))) else none
  | .sorted, .lst _ l => (strs? l).bind fun ss => if ss.length ≤ line then some (.lst true ((sortS ss).map .str)) else none
  | .abs, .int i => some (.int (if i < 0 then -i else i))
  | .list, .tup l => some (.lst true l)
  | .list, .lst _ l => some (.lst true l)
  | .list, .str s => some (.lst true (s.map fun c => .str [c]))
  | .list, .dic _ l => if l.all fun p => okK0 p.1 then some (.lst true (l.map (·.1))) else none
  | .tuple, .tup l => some (.tup l)
  | .tuple, .lst _ l => some (.tup l)
  | .dict, .dic _ l => if l.all fun p => kind? p.1 == some false then some (.dic true (l.map fun p => (p.1, sh1 p.2))) else none
  | .all, .lst _ l => (bls? l).map fun bs => .bl (bs.all id)
  | .any, .lst _ l => (bls? l).map fun bs => .bl (bs.any id)
  | .sum, .lst _ l => (ints? l).map fun is => .int is.sum
  | .min, .lst _ l => (ints? l).bind fun is => (minI is).map .int
  | .max, .lst _ l => (ints? l).bind fun is => (maxI is).map .int
  | .bool, .bl b => some (.bl b)
  | _, _ => none
/-- a text cut at each p from the left; k signs are still to be passed over -/
def splS (p : List Nat) : Nat → List Nat → List Nat → List (List Nat)
  | _, acc, [] => [acc]
  | 0, acc, c :: r => if (c :: r).take p.length == p then acc :: splS p (p.length - 1) [] r else splS p 0 (acc ++ [c]) r
  | k + 1, acc, _ :: r => splS p k acc r
def idxOf {α : Type} (p : α → Bool) : List α → Option Nat
  | [] => none
  | a :: r => if p a then some 0 else (idxOf p r).map (· + 1)
def b2T : B2 → T → T → Option T
  | .min, .int a, .int b => some (.int (if b < a then b else a))
  | .max, .int a, .int b => some (.int (if b > a then b else a))
  | _, _, _ => none
/-- a text's method -/
def mtT : Mt → List Nat → T → Option T
  | .join, sep, t => (seq? t).bind fun l => (strs? l).bind fun ss => if (ss.map List.length).sum + ss.length * sep.length ≤ line then some (.str (joinS sep ss)) else none
  | .index, s, .str [c] => (idxOf (· == c) s).map fun n => .int (n : Nat)
  | .split, s, .str p => if p ≠ [] ∧ (p.all fun c => decide (c < 256)) = true ∧ s.length + 2 ≤ line then some (.lst true ((splS p 0 [] s).map .str)) else none
  | _, _, _ => none
def getT : T → T → T → Option T
  | .dic _ l, k, x => if kindD l k then some (((dget l k).map sh1).getD x) else none
  | _, _, _ => none
def isiT : Ty → T → Option Bool
  | _, .und => none
  | _, .dic _ _ => none
  | .int, .int _ => some true
  | .int, .bl _ => some true
  | .bool, .bl _ => some true
  | .str, .str _ => some true
  | .tuple, .tup _ => some true
  | .list, .lst _ _ => some true
  | _, _ => some false

def isNonT : T → Bool
  | .non => true
  | _ => false
/-- x is None (k), x is not None -/
def isNf (k : Bool) (t : T) : Option T := match t with
  | .und => none
  | t => some (.bl (isNonT t == k))
/-- x is b (k), x is not b: of truths and texts -/
def isBf (k b : Bool) (t : T) : Option T := match t with
  | .bl x => some (.bl ((x == b) == k))
  | .str _ => some (.bl (!k))
  | _ => none
def dic? : T → Option Unit
  | .dic _ _ => some ()
  | _ => none
/-! ### the syntax -/
mutual
inductive Tg where
  | nm (i : Nat)
  | tp (ts : Tgs)
inductive Tgs where
  | nil
  | cons (t : Tg) (ts : Tgs)
end
mutual
inductive E where
  | var (i : Nat) | rd (i : Nat) | cst (t : T) | glo (g : Nat)
  | tup (es : Es) | lst (es : Es) | dct (es : Es)
  | bin (op : Bop) (a b : E) | neg (a : E)
  | cmp (op : Cop) (a b : E) | chn (o1 o2 : Cop) (a b c : E) | isN (a : E) | notN (a : E) | isB (b : Bool) (a : E) | notB (b : Bool) (a : E)
  | and (es : Es) | or (es : Es) | not (a : E) | ite (c a b : E)
  | idx (a i : E) | sli (a : E) (lo hi : Eo)
  | call (f : Nat) (as : As)
  | b1 (f : B1) (a : E) | b2 (f : B2) (a b : E) | mt (f : Mt) (a b : E) | get (d k x : E) | isi (ty : Ty) (a : E)
  | lc (elt : E) (tg : Tg) (it : It) (ifs : Es) (own : List Nat)
  | lc2 (elt : E) (tg : Tg) (it : It) (ifs : Es) (tg2 : Tg) (it2 : It) (ifs2 : Es) (own own2 : List Nat)
  | dc (k v : E) (tg : Tg) (it : It) (ifs : Es) (own : List Nat)
  | pop (i : Nat) | lvals (a : E) | gdct (g : Nat)
inductive Es where
  | nil
  | cons (e : E) (es : Es)
inductive Eo where
  | non
  | som (e : E)
inductive As where
  | nil
  | val (e : E) (as : As)
  | mut (i : Nat) (as : As)
  | tmp (e : E) (as : As)
inductive It where
  | of (e : E) | rng (a : E) | rng2 (a b : E) | enu (a : E) | zip (a b : E) | vals (a : E) | items (a : E)
end
mutual
inductive S where
  | pass | brk | cnt
  | asg (i : Nat) (e : E)
  | asgT (tg : Tg) (e : E)
  | par (is : List Nat) (es : Es)
  | put (i : Nat) (k e : E) (keep : Bool)
  | putM (ps : Ps) (es : Es)
  | app (i : Nat) (e : E)
  | appK (i : Nat) (k : T) (e : E)
  | upd (i : Nat) (e : E)
  | exp (e : E)
  | ifs (c : E) (a b : Ss)
  | whl (c : E) (b : Ss)
  | for (tg : Tg) (it : It) (b : Ss)
  | ret (e : E)
  | retv (i : Nat)
  | retN
  | rai (c : Nat) (e : Eo)
inductive Ss where
  | nil
  | cons (s : S) (ss : Ss)
/-- places of one variable: var[k] -/
inductive Ps where
  | nil
  | cons (i : Nat) (k : E) (keep : Bool) (ps : Ps)
end

inductive CR where
  | no
  | ret (t : T) (outs : Env)
  | ex (c : Nat) (d : T) (outs : Env)
structure Cfg where
  glos : List T
  call : Nat → List T → CR

/-! ### the meaning -/
inductive O where
  | v (t : T)
  | r (i : Nat)
def O.get : O → Env → Option T
  | .v t, _ => some t
  | .r i, e => (e[i]?).bind id
def isRd : E → Option Nat
  | .rd i => some i
  | _ => none
def need {α : Type} (o : Option α) : M α := fun e => match o with
  | some a => .ok a e
  | none => .no
def rdVar (i : Nat) : M T := fun e => match (e[i]?).bind id with
  | some t => .ok t e
  | none => .no
def getVar (i : Nat) : M T := fun e => match (e[i]?).bind id with
  | some t => if own t then .ok (fz t) (e.set i (some (fz t))) else .ok t e
  | none => .no
def setVar (i : Nat) (t : T) : M Unit := fun e => if i < e.length then .ok () (e.set i (some t)) else .no
mutual
def asg : Tg → T → M Unit
  | .nm i, t => setVar i t
  | .tp ts, .tup l => asgs ts l
  | .tp _, _ => fun _ => .no
def asgs : Tgs → List T → M Unit
  | .nil, [] => fun e => .ok () e
  | .cons t ts, a :: l => fun e => (asg t a e).bind fun _ e => asgs ts l e
  | _, _ => fun _ => .no
end
def wipe (e : Env) : List Nat → Env
  | [] => e
  | i :: is => (wipe e is).set i none
def back (e0 e : Env) : List Nat → Env
  | [] => e
  | i :: is => (back e0 e is).set i ((e0[i]?).bind id)
/-- what a block's own names hold outside is nothing of one's own -/
def plainAt (e : Env) (is : List Nat) : Bool := is.all fun i => match (e[i]?).bind id with
  | some t => !own t
  | none => true
mutual
def tgNames : Tg → List Nat
  | .nm i => [i]
  | .tp ts => tgsNames ts
def tgsNames : Tgs → List Nat
  | .nil => []
  | .cons t ts => tgNames t ++ tgsNames ts
end
def tgIn (t : Tg) (own : List Nat) : Bool := (tgNames t).all own.contains
/-- one operand (or the left of two): a variable is read when all are there -/
def opd (r : Option Nat) (m : M T) : M O := match r with
  | some i => fun e => match (e[i]?).bind id with
    | some _ => .ok (.r i) e
    | none => .no
  | none => fun e => (m e).bind fun t e => .ok (.v t) e
def strong (r : Option Nat) (m : M T) : M T := match r with
  | some _ => fun _ => .no
  | none => m
def fin1 (o : O) (f : T → Option T) : M T := fun e => match o.get e with
  | some a => need (f a) e
  | none => .no
def fin2 (o p : O) (f : T → T → Option T) : M T := fun e => match o.get e, p.get e with
  | some a, some b => need (f a b) e
  | _, _ => .no
def fin3 (o p q : O) (f : T → T → T → Option T) : M T := fun e => match o.get e, p.get e, q.get e with
  | some a, some b, some c => need (f a b c) e
  | _, _, _ => .no
/-- the turns of a comprehension -/
def turns (own : List Nat) (body : T → M (Option T)) : List T → List T → M (List T)
  | [], acc => fun e => .ok acc e
  | x :: r, acc => fun e => (body x (wipe e own)).bind fun o e => match o with
    | some t => if acc.length < line then turns own body r (acc ++ [t]) e else .no
    | none => turns own body r acc e
def turns2 (own : List Nat) (body : T → List T → M (List T)) : List T → List T → M (List T)
  | [], acc => fun e => .ok acc e
  | x :: r, acc => fun e => (body x acc (wipe e own)).bind fun acc e => turns2 own body r acc e
def turnsD (own : List Nat) (body : T → M (Option (T × T))) : List T → List (T × T) → M (List (T × T))
  | [], acc => fun e => .ok acc e
  | x :: r, acc => fun e => (body x (wipe e own)).bind fun o e => match o with
    | some (k, v) => if acc.length < line && kindD acc k then turnsD own body r (dput acc k v) e else .no
    | none => turnsD own body r acc e
def noEx {α : Type} (r : R α) : R α := match r with
  | .ex _ _ _ => .no
  | r => r
def upto (a b : Int) : List T := (List.range (b - a).toNat).map fun (n : Nat) => .int (a + (n : Int))
def small62 (i : Int) : Bool := decide (-4611686018427387904 ≤ i) && decide (i < 4611686018427387904)
def rngT (a b : T) : Option (List T) := match a, b with
  | .int a, .int b => if small62 a && small62 b then some (upto a b) else none
  | _, _ => none
def enumT : Nat → List T → List T
  | _, [] => []
  | n, a :: r => .tup [.int (n : Nat), a] :: enumT (n + 1) r
def zipT : List T → List T → List T
  | a :: r, b :: q => .tup [a, b] :: zipT r q
  | _, _ => []
/-- what is walked -/
def walk? : T → Option (List T)
  | .tup l => some l
  | .lst _ l => some l
  | .str s => some (s.map fun c => .str [c])
  | _ => none
def argsIn : List (T ⊕ Nat) → Env → Option (List T)
  | [], _ => some []
  | .inl t :: r, e => (argsIn r e).map (t :: ·)
  | .inr i :: r, e => ((e[i]?).bind id).bind fun t => (argsIn r e).map (t :: ·)
def outsIn : List (T ⊕ Nat) → Env → Env → Env
  | .inl _ :: r, _ :: os, e => outsIn r os e
  | .inr i :: r, o :: os, e => outsIn r os (e.set i o)
  | _, _, e => e
/-- no variable is handed over twice -/
def muts : List (T ⊕ Nat) → List Nat
  | [] => []
  | .inl _ :: r => muts r
  | .inr i :: r => i :: muts r
def nodupN : List Nat → Bool
  | [] => true
  | a :: r => !r.contains a && nodupN r
def callM (c : Cfg) (f : Nat) (as : List (T ⊕ Nat)) : M T := fun e => match argsIn as e with
  | some ts => if nodupN (muts as) then (match c.call f ts with
    | .no => .no
    | .ret t outs => .ok t (outsIn as outs e)
    | .ex x d outs => .ex x d (outsIn as outs e)) else .no
  | none => .no
def popM (i : Nat) : M T := fun e => match (e[i]?).bind id with
  | some (.lst true l) => match l.getLast? with
    | some t => .ok t (e.set i (some (.lst true l.dropLast)))
    | none => .no
  | _ => .no

section
variable (c : Cfg)
mutual
def ev : E → M T
  | .var i => getVar i
  | .rd i => rdVar i
  | .cst t => fun e => .ok t e
  | .glo g => need (c.glos[g]?)
  | .tup es => fun e => (evs es e).bind fun l e => .ok (.tup l) e
  | .lst es => fun e => (evs es e).bind fun l e => .ok (.lst true l) e
  | .dct es => fun e => (evp es [] e).bind fun l e => .ok (.dic true l) e
  | .bin op a b => fun e => (opd (isRd a) (ev a) e).bind fun o e => (opd (isRd b) (ev b) e).bind fun p e => fin2 o p (binT op) e
  | .neg a => fun e => (opd (isRd a) (ev a) e).bind fun o e => fin1 o negT e
  | .cmp op a b => fun e => (opd (isRd a) (ev a) e).bind fun o e => (opd (isRd b) (ev b) e).bind fun p e => fin2 o p (fun x y => (cmpT op x y).map .bl) e
  | .chn o1 o2 a b d => fun e => (opd (isRd a) (ev a) e).bind fun o e => (opd (isRd b) (ev b) e).bind fun p e => (fin2 o p (fun x y => (cmpT o1 x y).map .bl) e).bind fun t e => match t with
    | .bl true => (opd (isRd d) (ev d) e).bind fun q e => fin2 p q (fun x y => (cmpT o2 x y).map .bl) e
    | .bl false => .ok (.bl false) e
    | _ => .no
  | .isN a => fun e => (opd (isRd a) (ev a) e).bind fun o e => fin1 o (isNf true) e
  | .notN a => fun e => (opd (isRd a) (ev a) e).bind fun o e => fin1 o (isNf false) e
  | .isB k a => fun e => (opd (isRd a) (ev a) e).bind fun o e => fin1 o (isBf true k) e
  | .notB k a => fun e => (opd (isRd a) (ev a) e).bind fun o e => fin1 o (isBf false k) e
  | .and es => evAnd es
  | .or es => evOr es
  | .not a => fun e => (opd (isRd a) (ev a) e).bind fun o e => fin1 o (fun t => (tru t).map fun b => .bl (!b)) e
  | .ite q a b => fun e => (opd (isRd q) (ev q) e).bind fun o e => (fin1 o (fun t => (tru t).map .bl) e).bind fun t e => match t with
    | .bl true => strong (isRd a) (ev a) e
    | .bl false => strong (isRd b) (ev b) e
    | _ => .no
  | .idx a i => fun e => (opd (isRd a) (ev a) e).bind fun o e => (opd (isRd i) (ev i) e).bind fun p e => fin2 o p idxT e
  | .sli a lo hi => fun e => (opd (isRd a) (ev a) e).bind fun o e => (evo lo e).bind fun l e => (evo hi e).bind fun h e => fin1 o (fun t => sliT t l h) e
  | .call f as => fun e => (eva as e).bind fun l e => callM c f l e
  | .b1 f a => fun e => (opd (isRd a) (ev a) e).bind fun o e => fin1 o (b1T f) e
  | .b2 f a b => fun e => (opd (isRd a) (ev a) e).bind fun o e => (opd (isRd b) (ev b) e).bind fun p e => fin2 o p (b2T f) e
  | .mt f a b => fun e => (strong (isRd a) (ev a) e).bind fun t e => match t with
    | .str s => (opd (isRd b) (ev b) e).bind fun p e => fin1 p (mtT f s) e
    | _ => .no
  | .get d k x => fun e => (opd (isRd d) (ev d) e).bind fun o e => (need ((o.get e).bind dic?) e).bind fun _ e => (opd (isRd k) (ev k) e).bind fun p e => (strong (isRd x) (ev x) e).bind fun t e => fin3 o p (.v (fz t)) getT e
  | .isi ty a => fun e => (opd (isRd a) (ev a) e).bind fun o e => fin1 o (fun t => (isiT ty t).map .bl) e
  | .lc elt tg it ifs own => fun e => (evi it e).bind fun l e0 => if plainAt e0 own && tgIn tg own then noEx ((turns own (fun x e => (asg tg x e).bind fun _ e => (evT ifs e).bind fun b e =>
      if b then (strong (isRd elt) (ev elt) e).bind fun t e => .ok (some (fz t)) e else .ok none e) l [] e0).bind fun acc e => .ok (.lst true acc) (back e0 e own)) else .no
  | .lc2 elt tg it ifs tg2 it2 ifs2 own own2 => fun e => (evi it e).bind fun l e0 => if plainAt e0 own && tgIn tg own && tgIn tg2 own2 && own2.all own.contains then noEx ((turns2 own (fun x acc e => (asg tg x e).bind fun _ e => (evT ifs e).bind fun b e =>
      if b then (evi it2 e).bind fun l2 e => turns own2 (fun x e => (asg tg2 x e).bind fun _ e => (evT ifs2 e).bind fun b e =>
        if b then (strong (isRd elt) (ev elt) e).bind fun t e => .ok (some (fz t)) e else .ok none e) l2 acc e else .ok acc e) l [] e0).bind fun acc e => .ok (.lst true acc) (back e0 e own)) else .no
  | .dc k v tg it ifs own => fun e => (evi it e).bind fun l e0 => if plainAt e0 own && tgIn tg own then noEx ((turnsD own (fun x e => (asg tg x e).bind fun _ e => (evT ifs e).bind fun b e =>
      if b then (strong (isRd k) (ev k) e).bind fun t e => (strong (isRd v) (ev v) e).bind fun u e => .ok (some (fz t, fz u)) e else .ok none e) l [] e0).bind fun acc e => .ok (.dic true acc) (back e0 e own)) else .no
  | .pop i => popM i
  | .gdct g => need ((c.glos[g]?).bind fun t => match t with
    | .dic _ l => some (.dic true l)
    | _ => none)
  | .lvals a => fun e => (opd (isRd a) (ev a) e).bind fun o e => fin1 o (fun t => match t with
    | .dic _ l => some (.lst true (l.map fun p => sh1 p.2))
    | _ => none) e
/-- values to be kept: frozen -/
def evs : Es → M (List T)
  | .nil => fun e => .ok [] e
  | .cons a es => fun e => (strong (isRd a) (ev a) e).bind fun t e => (evs es e).bind fun l e => .ok (fz t :: l) e
/-- keys and values, by turns -/
def evp : Es → List (T × T) → M (List (T × T))
  | .nil, acc => fun e => .ok acc e
  | .cons k es, acc => match es with
    | .cons v r => fun e => (strong (isRd k) (ev k) e).bind fun t e => (strong (isRd v) (ev v) e).bind fun u e => if kind? (fz t) == some false then evp r (dput acc (fz t) (fz u)) e else .no
    | .nil => fun _ => .no
def evAnd : Es → M T
  | .nil => fun _ => .no
  | .cons a es => match es with
    | .nil => strong (isRd a) (ev a)
    | .cons _ _ => fun e => (strong (isRd a) (ev a) e).bind fun t e => match tru t with
      | some true => evAnd es e
      | some false => .ok t e
      | none => .no
def evOr : Es → M T
  | .nil => fun _ => .no
  | .cons a es => match es with
    | .nil => strong (isRd a) (ev a)
    | .cons _ _ => fun e => (strong (isRd a) (ev a) e).bind fun t e => match tru t with
      | some true => .ok t e
      | some false => evOr es e
      | none => .no
/-- tests of a comprehension -/
def evT : Es → M Bool
  | .nil => fun e => .ok true e
  | .cons a es => fun e => (opd (isRd a) (ev a) e).bind fun o e => (fin1 o (fun t => (tru t).map .bl) e).bind fun t e => match t with
    | .bl true => evT es e
    | .bl false => .ok false e
    | _ => .no
def evo : Eo → M (Option Int)
  | .non => fun e => .ok none e
  | .som a => fun e => (strong (isRd a) (ev a) e).bind fun t e => match t with
    | .int i => .ok (some i) e
    | _ => .no
def eva : As → M (List (T ⊕ Nat))
  | .nil => fun e => .ok [] e
  | .val a as => fun e => (strong (isRd a) (ev a) e).bind fun t e => (eva as e).bind fun l e => .ok (.inl (fz t) :: l) e
  | .mut i as => fun e => match (e[i]?).bind id with
    | some _ => (eva as e).bind fun l e => .ok (.inr i :: l) e
    | none => .no
  | .tmp a as => fun e => (strong (isRd a) (ev a) e).bind fun t e => (eva as e).bind fun l e => .ok (.inl t :: l) e
def evi : It → M (List T)
  | .of a => fun e => (strong (isRd a) (ev a) e).bind fun t e => need (walk? (fz t)) e
  | .rng a => fun e => (strong (isRd a) (ev a) e).bind fun t e => need (rngT (.int 0) t) e
  | .rng2 a b => fun e => (strong (isRd a) (ev a) e).bind fun t e => (strong (isRd b) (ev b) e).bind fun u e => need (rngT t u) e
  | .enu a => fun e => (strong (isRd a) (ev a) e).bind fun t e => need ((tup? (fz t)).map (enumT 0)) e
  | .zip a b => fun e => (strong (isRd a) (ev a) e).bind fun t e => (strong (isRd b) (ev b) e).bind fun u e => need ((seq? (fz t)).bind fun l => (seq? (fz u)).map fun m => zipT l m) e
  | .vals a => fun e => (strong (isRd a) (ev a) e).bind fun t e => need (match fz t with
    | .dic _ l => some (l.map (·.2))
    | _ => none) e
  | .items a => fun e => (strong (isRd a) (ev a) e).bind fun t e => need (match fz t with
    | .dic _ l => some (l.map fun p => .tup [p.1, p.2])
    | _ => none) e
end
end

/-! ### statements -/
inductive Fl where
  | nx | brk | cnt
  | ret (t : T)
def forL (tg : T → M Unit) (body : M Fl) : List T → M Fl
  | [] => fun e => .ok .nx e
  | x :: r => fun e => (tg x e).bind fun _ e => (body e).bind fun f e => match f with
    | .nx => forL tg body r e
    | .cnt => forL tg body r e
    | .brk => .ok .nx e
    | .ret t => .ok (.ret t) e
def whlL (q : M Bool) (body : M Fl) : Nat → M Fl
  | 0 => fun _ => .no
  | n + 1 => fun e => (q e).bind fun b e => if b then (body e).bind fun f e => match f with
    | .nx => whlL q body n e
    | .cnt => whlL q body n e
    | .brk => .ok .nx e
    | .ret t => .ok (.ret t) e
    else .ok .nx e
abbrev many : Nat := 4611686018427387904
def testM (r : Option Nat) (m : M T) : M Bool := fun e => (opd r m e).bind fun o e => match o.get e with
  | some t => need (tru t) e
  | none => .no
def setL (l : List T) (i : Int) (t : T) : Option (List T) := (ixn l.length i).map fun j => l.set j t
/-- var[k] = t -/
def putM1 (i : Nat) (k t : T) : M Unit := fun e => match (e[i]?).bind id with
  | some (.lst true l) => match k with
    | .int z => match setL l z (fz t) with
      | some l' => .ok () (e.set i (some (.lst true l')))
      | none => .no
    | _ => .no
  | some (.dic true l) => if kindD l k && decide (l.length < line) then .ok () (e.set i (some (.dic true (dput l k (fz t))))) else .no
  | _ => .no
/-- a list or a dict of one's own -/
def isOwnX (e : Env) (i : Nat) : Bool := match (e[i]?).bind id with
  | some (.lst true _) => true
  | some (.dic true _) => true
  | _ => false
def isOwnL (e : Env) (i : Nat) : Bool := match (e[i]?).bind id with
  | some (.lst true _) => true
  | _ => false
def kept (b : Bool) (t : T) : T := match b, t with
  | true, .lst o l => .lst o l
  | _, t => fz t
def appM (i : Nat) (t : T) : M Unit := fun e => match (e[i]?).bind id with
  | some (.lst true l) => if l.length < line then .ok () (e.set i (some (.lst true (l ++ [fz t])))) else .no
  | _ => .no
def appKM (i : Nat) (k t : T) : M Unit := fun e => match (e[i]?).bind id with
  | some (.dic true d) => match (if kindD d k then dget d k else none) with
    | some (.lst true l) => if l.length < line then .ok () (e.set i (some (.dic true (dput d k (.lst true (l ++ [fz t])))))) else .no
    | _ => .no
  | _ => .no
def dmerge (l : List (T × T)) : List (T × T) → Option (List (T × T))
  | [] => some l
  | p :: r => if kindD l p.1 then dmerge (dput l p.1 (fz1 p.2)) r else none
def updM (i : Nat) (t : T) : M Unit := fun e => match (e[i]?).bind id, fz t with
  | some (.dic true l), .dic _ m => match dmerge l m with
    | some l' => if l'.length ≤ line then .ok () (e.set i (some (.dic true l'))) else .no
    | none => .no
  | _, _ => .no
def keepVals : Es → List T → List T := fun _ l => l
def parM : List Nat → List T → M Unit
  | [], [] => fun e => .ok () e
  | i :: is, t :: l => fun e => (setVar i t e).bind fun _ e => parM is l e
  | _, _ => fun _ => .no
section
variable (c : Cfg)
/-- values, as they come -/
def evk : Es → M (List T)
  | .nil => fun e => .ok [] e
  | .cons a es => fun e => (strong (isRd a) (ev c a) e).bind fun t e => (evk es e).bind fun l e => .ok (t :: l) e
def putsM : Ps → List T → M Unit
  | .nil, [] => fun e => .ok () e
  | .cons i k b ps, t :: l => fun e => if isOwnX e i then (strong (isRd k) (ev c k) e).bind fun z e => (putM1 i (fz z) t e).bind fun _ e => putsM ps l e else .no
  | _, _ => fun _ => .no
mutual
def ex : S → M Fl
  | .pass => fun e => .ok .nx e
  | .brk => fun e => .ok .brk e
  | .cnt => fun e => .ok .cnt e
  | .asg i a => fun e => (strong (isRd a) (ev c a) e).bind fun t e => (setVar i t e).bind fun _ e => .ok .nx e
  | .asgT tg a => fun e => (strong (isRd a) (ev c a) e).bind fun t e => (asg tg (fz t) e).bind fun _ e => .ok .nx e
  | .par is es => fun e => (evk c es e).bind fun l e => (parM is l e).bind fun _ e => .ok .nx e
  | .put i k a b => fun e => (strong (isRd a) (ev c a) e).bind fun t e => if isOwnX e i then (strong (isRd k) (ev c k) e).bind fun z e => (putM1 i (fz z) (kept b t) e).bind fun _ e => .ok .nx e else .no
  | .putM ps es => fun e => (evs c es e).bind fun l e => (putsM c ps l e).bind fun _ e => .ok .nx e
  | .app i a => fun e => if isOwnL e i then (strong (isRd a) (ev c a) e).bind fun t e => (appM i t e).bind fun _ e => .ok .nx e else .no
  | .appK i k a => fun e => (strong (isRd a) (ev c a) e).bind fun t e => (appKM i k t e).bind fun _ e => .ok .nx e
  | .upd i a => fun e => (strong (isRd a) (ev c a) e).bind fun t e => (updM i t e).bind fun _ e => .ok .nx e
  | .exp a => fun e => (strong (isRd a) (ev c a) e).bind fun _ e => .ok .nx e
  | .ifs q a b => fun e => (testM (isRd q) (ev c q) e).bind fun k e => if k then exs a e else exs b e
  | .whl q b => whlL (testM (isRd q) (ev c q)) (exs b) many
  | .for tg it b => fun e => (evi c it e).bind fun l e => forL (asg tg) (exs b) l e
  | .ret a => fun e => (strong (isRd a) (ev c a) e).bind fun t e => .ok (.ret t) e
  | .retv i => fun e => match (e[i]?).bind id with
    | some t => .ok (.ret t) (e.set i none)
    | none => .no
  | .retN => fun e => .ok (.ret .non) e
  | .rai k .non => fun e => .ex k .non e
  | .rai k (.som a) => fun e => (strong (isRd a) (ev c a) e).bind fun t e => .ex k (fz t) e
def exs : Ss → M Fl
  | .nil => fun e => .ok .nx e
  | .cons s ss => fun e => (ex s e).bind fun f e => match f with
    | .nx => exs ss e
    | f => .ok f e
end
end
/-! ### a program -/
structure Def where
  name : PySem.Str
  ps : List PySem.Str
  ns : List PySem.Str
  ms : List Nat
  body : Ss
structure Prog where
  glos : List (PySem.Str × T)
  defs : List Def
/-- what a caller gets back: of the parameters that are handed in and out -/
def outsOf (d : Def) (e : Env) : Env := (List.range d.ps.length).map fun i => if d.ms.contains i then (e[i]?).bind id else none
def Def.run (d : Def) (c : Cfg) (ts : List T) : CR :=
  if ts.length = d.ps.length then (match exs c d.body (ts.map some ++ List.replicate (d.ns.length - d.ps.length) none) with
    | .no => .no
    | .ok (.ret t) e => .ret t (outsOf d e)
    | .ok .nx e => .ret .non (outsOf d e)
    | .ok _ _ => .no
    | .ex k x e => .ex k x (outsOf d e)) else .no
def Prog.tab (p : Prog) : Nat → Nat → List T → CR
  | 0, _, _ => .no
  | n + 1, f, ts => match p.defs[f]? with
    | some d => d.run ⟨p.glos.map (·.2), p.tab n⟩ ts
    | none => .no
end Vi

set_option autoImplicit false
set_option Elab.async false
set_option linter.all false
set_option maxRecDepth 100000
/-! VI over the layer: what a value of the model stands for. -/
namespace Vi
open PySem PySem.Spec PyProof.Rows L2

def sOf (s : List Nat) : Str := ⟨s.toArray⟩
/-- a text that the model holds -/
def okS (s : List Nat) : Prop := s.length ≤ line ∧ ∀ c ∈ s, c < 1114112
def keyT : Key → T
  | .inl i => .int i
  | .inr s => .str s.cps.toList
mutual
def nk : T → NestedKey
  | .int i => .num i
  | .str s => .text (sOf s)
  | .tup l => .tup (nks l)
  | _ => .none
def nks : List T → List NestedKey
  | [] => []
  | a :: r => nk a :: nks r
end
/-- a dict whose keys are tuples, at a: the keys' places and the values -/
def KeyedAt (P : Program) (w : World) (a : Addr) (xs : List (NestedKey × Addr × V)) (h : Heap) : Prop :=
  (a == sysModules) = false ∧ xs.length ≤ sizeLine ∧ ∃ ys : List (NestedKey × Addr × Value), Paired (fun (p : NestedKey × Addr × V) (q : NestedKey × Addr × Value) => p.1 = q.1 ∧ p.2.1 = q.2.1 ∧ RelV p.2.2 q.2.2) xs ys ∧
    ∃ o es ep, h.get? a = some o ∧ o.ExactDict ∧ o.data = .dict es ep ∧ es.toList = ys.map (entryOfKey (nestedKind P w)) ∧ (ys.map (·.1)).Nodup
def keyedO (P : Program) (w : World) (a : Addr) (xs : List (NestedKey × Addr × V)) : HO := .ext (KeyedAt P w a xs)

/-- the world of a relation: the program, the written part, what is shared -/
structure Rw where
  P : Program
  w : World
  K : PySem.W.Frag
/-- a value that is never changed again stands for a plain one -/
inductive Rp (Z : Rw) (Sh : Hp) : V → T → Prop where
  | non : Rp Z Sh .non .non
  | und (v : V) : Rp Z Sh v .und
  | bl (b : Bool) : Rp Z Sh (.bl b) (.bl b)
  | int (i : Int) : Rp Z Sh (.int i) (.int i)
  | str (s : List Nat) (h : okS s) : Rp Z Sh (.str (sOf s)) (.str s)
  | tup {a : Addr} {vs : List V} {ts : List T} (h : SqT Z.K Sh a vs) (hl : vs.length = ts.length) (hs : ∀ (i : Nat) (v : V) (t : T), vs[i]? = some v → ts[i]? = some t → Rp Z Sh v t) : Rp Z Sh (.ref a) (.tup ts)
  | lst {a : Addr} {vs : List V} {ts : List T} (h : SqL Z.K Sh a vs) (hl : vs.length = ts.length) (hs : ∀ (i : Nat) (v : V) (t : T), vs[i]? = some v → ts[i]? = some t → Rp Z Sh v t) : Rp Z Sh (.ref a) (.lst false ts)
  | dic0 {a : Addr} {od : Obj} {kvs : List (Key × V)} {l : List (T × T)} (h : Sh a = some (.frz od (.dK kvs))) (hl : kvs.length = l.length) (hk : kvs.map (fun p => keyT p.1) = l.map (·.1))
      (hs : ∀ (i : Nat) (p : Key × V) (q : T × T), kvs[i]? = some p → l[i]? = some q → Rp Z Sh p.2 q.2) : Rp Z Sh (.ref a) (.dic false l)
  | dic1 {a : Addr} {od : Obj} {xs : List (NestedKey × Addr × V)} {l : List (T × T)} (h : Sh a = some (.frz od (keyedO Z.P Z.w a xs))) (hl : xs.length = l.length) (hk : xs.map (·.1) = l.map (fun q => nk q.1)) (hp : l ≠ [] ∧ ∀ q ∈ l, kind? q.1 = some true)
      (hr : ∀ (i : Nat) (p : NestedKey × Addr × V) (q : T × T), xs[i]? = some p → l[i]? = some q → Rp Z Sh (.ref p.2.1) q.1)
      (hs : ∀ (i : Nat) (p : NestedKey × Addr × V) (q : T × T), xs[i]? = some p → l[i]? = some q → Rp Z Sh p.2.2 q.2) : Rp Z Sh (.ref a) (.dic false l)

/-- values, one by one -/
def RpL (Z : Rw) (Sh : Hp) (vs : List V) (ts : List T) : Prop := vs.length = ts.length ∧ ∀ (i : Nat) (v : V) (t : T), vs[i]? = some v → ts[i]? = some t → Rp Z Sh v t
section
variable {Z : Rw} {Sh Sh' H H' : Hp}
theorem RpL.nil : RpL Z Sh [] [] := ⟨rfl, fun i v t h _ => by simp at h⟩
theorem RpL.cons {v : V} {t : T} {vs : List V} {ts : List T} (h : Rp Z Sh v t) (r : RpL Z Sh vs ts) : RpL Z Sh (v :: vs) (t :: ts) := ⟨by simp [r.1], fun i w u h1 h2 => by
  cases i with
  | zero => simp at h1 h2; subst h1; subst h2; exact h
  | succ i => exact r.2 i w u (by simpa using h1) (by simpa using h2)⟩
theorem RpL.head {v : V} {t : T} {vs : List V} {ts : List T} (r : RpL Z Sh (v :: vs) (t :: ts)) : Rp Z Sh v t := r.2 0 v t rfl rfl
theorem RpL.tail {v : V} {t : T} {vs : List V} {ts : List T} (r : RpL Z Sh (v :: vs) (t :: ts)) : RpL Z Sh vs ts := ⟨by have := r.1; simpa using this, fun i w u h1 h2 => r.2 (i + 1) w u (by simpa using h1) (by simpa using h2)⟩
theorem RpL.inv_nil {vs : List V} (r : RpL Z Sh vs []) : vs = [] := List.length_eq_zero_iff.mp r.1
theorem RpL.inv_cons {vs : List V} {t : T} {ts : List T} (r : RpL Z Sh vs (t :: ts)) : ∃ v vr, vs = v :: vr ∧ Rp Z Sh v t ∧ RpL Z Sh vr ts := by
  cases vs with
  | nil => exact absurd r.1 (by simp)
  | cons v vr => exact ⟨v, vr, rfl, r.head, r.tail⟩
theorem RpL.get {vs : List V} {ts : List T} (r : RpL Z Sh vs ts) {i : Nat} {t : T} (h : ts[i]? = some t) : ∃ v, vs[i]? = some v ∧ Rp Z Sh v t := by
  obtain ⟨hi, e⟩ := List.getElem?_eq_some_iff.mp h
  have hv : i < vs.length := by rw [r.1]; exact hi
  exact ⟨vs[i], List.getElem?_eq_getElem hv, r.2 i _ _ (List.getElem?_eq_getElem hv) h⟩
theorem RpL.append {vs us : List V} {ts ws : List T} (r : RpL Z Sh vs ts) (q : RpL Z Sh us ws) : RpL Z Sh (vs ++ us) (ts ++ ws) := ⟨by simp [r.1, q.1], fun i v t h1 h2 => by
  by_cases hi : i < vs.length
  · rw [List.getElem?_append_left hi] at h1
    rw [List.getElem?_append_left (by rw [← r.1]; exact hi)] at h2
    exact r.2 i v t h1 h2
  · rw [List.getElem?_append_right (by omega)] at h1
    rw [List.getElem?_append_right (by rw [← r.1]; omega), ← r.1] at h2
    exact q.2 _ v t h1 h2⟩
theorem RpL.take {vs : List V} {ts : List T} (r : RpL Z Sh vs ts) (n : Nat) : RpL Z Sh (vs.take n) (ts.take n) := ⟨by simp [r.1], fun i v t h1 h2 => by
  rw [List.getElem?_take] at h1 h2
  by_cases hi : i < n
  · rw [if_pos hi] at h1 h2; exact r.2 i v t h1 h2
  · rw [if_neg hi] at h1; cases h1⟩
theorem RpL.drop {vs : List V} {ts : List T} (r : RpL Z Sh vs ts) (n : Nat) : RpL Z Sh (vs.drop n) (ts.drop n) := ⟨by simp [r.1], fun i v t h1 h2 => by
  rw [List.getElem?_drop] at h1 h2
  exact r.2 _ v t h1 h2⟩
theorem RpL.set {vs : List V} {ts : List T} (r : RpL Z Sh vs ts) {v : V} {t : T} (h : Rp Z Sh v t) (n : Nat) : RpL Z Sh (vs.set n v) (ts.set n t) := ⟨by simp [r.1], fun i w u h1 h2 => by
  rw [List.getElem?_set] at h1 h2
  by_cases hi : n = i
  · subst hi
    rw [if_pos rfl] at h1 h2
    split at h1
    · split at h2
      · cases h1; cases h2; exact h
      · cases h2
    · cases h1
  · rw [if_neg hi] at h1 h2; exact r.2 i w u h1 h2⟩
theorem RpL.dropLast {vs : List V} {ts : List T} (r : RpL Z Sh vs ts) : RpL Z Sh vs.dropLast ts.dropLast := by
  rw [List.dropLast_eq_take, List.dropLast_eq_take, r.1]
  exact r.take _

/-- what was shared stays -/
abbrev Grow (Sh Sh' : Hp) : Prop := ∀ a o, Sh a = some o → Sh' a = some o
theorem Grow.rd (g : Grow Sh Sh') {a : Addr} {u : HO} (h : Rd Sh a u) : Rd Sh' a u := by
  rcases h with h | ⟨o, h⟩
  · exact .inl (g _ _ h)
  · exact .inr ⟨o, g _ _ h⟩
theorem Grow.sqL (g : Grow Sh Sh') {K : PySem.W.Frag} {a : Addr} {xs : List V} (h : SqL K Sh a xs) : SqL K Sh' a xs := by
  rcases h with h | h
  · exact .inl (g.rd h)
  · exact .inr h
theorem Grow.sqT (g : Grow Sh Sh') {K : PySem.W.Frag} {a : Addr} {xs : List V} (h : SqT K Sh a xs) : SqT K Sh' a xs := by
  rcases h with h | h
  · exact .inl (g.rd h)
  · exact .inr h
theorem Grow.sqLL {K : PySem.W.Frag} {Sh Sh' : Hp} {a : Addr} {xs : List V} (g : Grow Sh Sh') (h : SqL K Sh a xs) : SqL K Sh' a xs := by
  rcases h with h | h
  · exact .inl (g.rd h)
  · exact .inr h
theorem Rp.mono (g : Grow Sh Sh') {v : V} {t : T} (h : Rp Z Sh v t) : Rp Z Sh' v t := by
  induction h with
  | non => exact .non
  | und v => exact .und v
  | bl b => exact .bl b
  | int i => exact .int i
  | str s h => exact .str s h
  | tup h hl _ ih => exact .tup (g.sqT h) hl ih
  | lst h hl _ ih => exact .lst (Grow.sqLL g h) hl ih
  | dic0 h hl hk _ ih => exact .dic0 (g _ _ h) hl hk ih
  | dic1 h hl hk hp _ _ ih1 ih2 => exact .dic1 (g _ _ h) hl hk hp ih1 ih2
theorem RpL.mono (g : Grow Sh Sh') {vs : List V} {ts : List T} (h : RpL Z Sh vs ts) : RpL Z Sh' vs ts := ⟨h.1, fun i v t h1 h2 => (h.2 i v t h1 h2).mono g⟩
end
/-- a dict's values: shared, or lists of its own (at these places) -/
inductive VRep (Z : Rw) (Sh H : Hp) : List V → List T → List Addr → Prop where
  | nil : VRep Z Sh H [] [] []
  | sh {v : V} {t : T} {vs : List V} {ts : List T} {B : List Addr} (h : Rp Z Sh v t) (r : VRep Z Sh H vs ts B) : VRep Z Sh H (v :: vs) (t :: ts) B
  | own {a : Addr} {us : List V} {ls : List T} {vs : List V} {ts : List T} {B : List Addr} (h : H a = some (.lst us)) (n : Sh a = none) (q : RpL Z Sh us ls) (r : VRep Z Sh H vs ts B) : VRep Z Sh H (.ref a :: vs) (.lst true ls :: ts) (a :: B)
/-- a value of a variable: shared, or held by it alone, with the places that are its own -/
inductive Rep (Z : Rw) (Sh H : Hp) : V → T → List Addr → Prop where
  | sh {v : V} {t : T} (h : Rp Z Sh v t) : Rep Z Sh H v t []
  | lst {a : Addr} {vs : List V} {ts : List T} (h : H a = some (.lst vs)) (n : Sh a = none) (hs : RpL Z Sh vs ts) : Rep Z Sh H (.ref a) (.lst true ts) [a]
  | dic0 {a : Addr} {kvs : List (Key × V)} {l : List (T × T)} {B : List Addr} (h : H a = some (.dK kvs)) (n : Sh a = none) (hk : kvs.map (fun p => keyT p.1) = l.map (·.1)) (hs : VRep Z Sh H (kvs.map (·.2)) (l.map (·.2)) B) : Rep Z Sh H (.ref a) (.dic true l) (a :: B)
  | dic1 {a : Addr} {xs : List (NestedKey × Addr × V)} {l : List (T × T)} {B : List Addr} (h : H a = some (keyedO Z.P Z.w a xs)) (n : Sh a = none) (hk : xs.map (·.1) = l.map (fun q => nk q.1)) (hp : l ≠ [] ∧ ∀ q ∈ l, kind? q.1 = some true)
      (hr : ∀ (i : Nat) (p : NestedKey × Addr × V) (q : T × T), xs[i]? = some p → l[i]? = some q → Rp Z Sh (.ref p.2.1) q.1) (hs : VRep Z Sh H (xs.map (·.2.2)) (l.map (·.2)) B) : Rep Z Sh H (.ref a) (.dic true l) (a :: B)
section
variable {Z : Rw} {Sh Sh' H H' : Hp} {v : V} {t : T} {A B F : List Addr}
theorem VRep.mono (g : Grow Sh Sh') {vs : List V} {ts : List T} (r : VRep Z Sh H vs ts B) (hB : ∀ a ∈ B, H' a = H a ∧ Sh' a = none) : VRep Z Sh' H' vs ts B := by
  induction r with
  | nil => exact .nil
  | sh h _ ih => exact .sh (h.mono g) (ih hB)
  | own h n q _ ih =>
    obtain ⟨e1, e2⟩ := hB _ List.mem_cons_self
    exact .own (e1.trans h) e2 (q.mono g) (ih fun a ha => hB a (List.mem_cons_of_mem _ ha))
theorem Rep.mono (g : Grow Sh Sh') (r : Rep Z Sh H v t A) (hA : ∀ a ∈ A, H' a = H a ∧ Sh' a = none) : Rep Z Sh' H' v t A := by
  cases r with
  | sh h => exact .sh (h.mono g)
  | lst h n hs =>
    obtain ⟨e1, e2⟩ := hA _ List.mem_cons_self
    exact .lst (e1.trans h) e2 (hs.mono g)
  | dic0 h n hk hs =>
    obtain ⟨e1, e2⟩ := hA _ List.mem_cons_self
    exact .dic0 (e1.trans h) e2 hk (hs.mono g fun a ha => hA a (List.mem_cons_of_mem _ ha))
  | dic1 h n hk hp hr hs =>
    obtain ⟨e1, e2⟩ := hA _ List.mem_cons_self
    exact .dic1 (e1.trans h) e2 hk hp (fun i p q h1 h2 => (hr i p q h1 h2).mono g) (hs.mono g fun a ha => hA a (List.mem_cons_of_mem _ ha))
theorem VRep.there {vs : List V} {ts : List T} (r : VRep Z Sh H vs ts B) : ∀ a ∈ B, Sh a = none ∧ ∃ o, H a = some o := by
  induction r with
  | nil => intro a h; simp at h
  | sh _ _ ih => exact ih
  | own h n _ _ ih =>
    intro a ha
    rcases List.mem_cons.mp ha with rfl | ha
    · exact ⟨n, _, h⟩
    · exact ih a ha
theorem Rep.there (r : Rep Z Sh H v t A) : ∀ a ∈ A, Sh a = none ∧ ∃ o, H a = some o := by
  cases r with
  | sh h => intro a ha; simp at ha
  | lst h n hs => intro a ha; obtain rfl : a = _ := by simpa using ha
                  exact ⟨n, _, h⟩
  | dic0 h n hk hs =>
    intro a ha
    rcases List.mem_cons.mp ha with rfl | ha
    · exact ⟨n, _, h⟩
    · exact hs.there a ha
  | dic1 h n hk hp hr hs =>
    intro a ha
    rcases List.mem_cons.mp ha with rfl | ha
    · exact ⟨n, _, h⟩
    · exact hs.there a ha
theorem Rep.shared (r : Rep Z Sh H v t A) (h : own t = false) : Rp Z Sh v t ∧ A = [] := by
  cases r with
  | sh h => exact ⟨h, rfl⟩
  | lst _ _ _ => cases h
  | dic0 _ _ _ _ => cases h
  | dic1 _ _ _ _ _ _ => cases h

/-- the state: what is shared (Sh), what others hold (F: callers, values in flight), slots that keep their value (ms), the variables -/
structure SR (Z : Rw) (Sh : Hp) (F : List Addr) (ms : List (Nat × V)) (σ : L2.St) (H : Hp) (env : Env) : Prop where
  len : σ.length = env.length
  sub : ∀ a o, Sh a = some o → H a = some o
  slots : ∃ A : Nat → List Addr, (∀ i t, (env[i]?).bind id = some t → ∃ v, σ[i]? = some (some v) ∧ Rep Z Sh H v t (A i)) ∧ (∀ i, (A i).Nodup ∧ ∀ a ∈ A i, a ∉ F) ∧ ∀ i j, i ≠ j → ∀ a ∈ A i, a ∉ A j
  fr : F.Nodup ∧ ∀ a ∈ F, Sh a = none ∧ ∃ o, H a = some o
  ms : ∀ p ∈ ms, σ[p.1]? = some (some p.2)
/-- what a step leaves as it was -/
structure Aft (Sh : Hp) (F : List Addr) (H Sh' H' : Hp) : Prop where
  grow : Grow Sh Sh'
  keep : ∀ a ∈ F, H' a = H a
theorem Aft.refl {Sh : Hp} {F : List Addr} {H : Hp} : Aft Sh F H Sh H := ⟨fun _ _ h => h, fun _ _ => rfl⟩
theorem Aft.trans {Sh1 H1 : Hp} (a : Aft Sh F H Sh1 H1) (b : Aft Sh1 F H1 Sh' H') : Aft Sh F H Sh' H' := ⟨fun x o h => b.grow x o (a.grow x o h), fun x hx => (b.keep x hx).trans (a.keep x hx)⟩
theorem Aft.less {G : List Addr} (a : Aft Sh F H Sh' H') (h : ∀ x ∈ G, x ∈ F) : Aft Sh G H Sh' H' := ⟨a.grow, fun x hx => a.keep x (h x hx)⟩
theorem SR.less {ms : List (Nat × V)} {σ : L2.St} {env : Env} (s : SR Z Sh (A ++ F) ms σ H env) : SR Z Sh F ms σ H env := by
  obtain ⟨B, h1, h2, h3⟩ := s.slots
  exact ⟨s.len, s.sub, ⟨B, h1, fun i => ⟨(h2 i).1, fun a ha hf => (h2 i).2 a ha (List.mem_append_right _ hf)⟩, h3⟩, ⟨(List.nodup_append.mp s.fr.1).2.1, fun a ha => s.fr.2 a (List.mem_append_right _ ha)⟩, s.ms⟩
/-- a value in flight stays -/
theorem Rep.stay (r : Rep Z Sh H v t A) (a : Aft Sh F H Sh' H') (hA : ∀ x ∈ A, x ∈ F) (hS : ∀ x ∈ F, Sh' x = none) : Rep Z Sh' H' v t A := r.mono a.grow fun x hx => ⟨a.keep x (hA x hx), hS x (hA x hx)⟩

variable {ms : List (Nat × V)} {σ : L2.St} {env : Env} {A' : List Addr}
/-- values in flight (A) have become others (A'): all else stands -/
theorem SR.step (s : SR Z Sh (A ++ F) ms σ H env) (g : Grow Sh Sh') (sub : ∀ a o, Sh' a = some o → H' a = some o)
    (k : ∀ a, a ∉ A → (∃ o, H a = some o) → H' a = H a ∧ (Sh a = none → Sh' a = none)) (n : ∀ a ∈ A', (a ∈ A ∨ H a = none) ∧ Sh' a = none ∧ ∃ o, H' a = some o) (nd : A'.Nodup) : SR Z Sh' (A' ++ F) ms σ H' env := by
  obtain ⟨B, h1, h2, h3⟩ := s.slots
  have hAF := List.nodup_append.mp s.fr.1
  have hF : ∀ a ∈ F, a ∉ A := fun a ha hA => hAF.2.2 a hA a ha rfl
  have ex : ∀ a ∈ F, ∃ o, H a = some o := fun a ha => (s.fr.2 a (List.mem_append_right _ ha)).2
  refine ⟨s.len, sub, ⟨fun i => if ((env[i]?).bind id).isSome then B i else [], fun i t e => ?_, fun i => ?_, fun i j hij a ha => ?_⟩, ⟨?_, fun a ha => ?_⟩, s.ms⟩
  · obtain ⟨v, e1, r⟩ := h1 i t e
    refine ⟨v, e1, ?_⟩
    simp only [e, Option.isSome_some, if_true]
    refine r.mono g fun a ha => ?_
    have hn : a ∉ A := fun hA => (h2 i).2 a ha (List.mem_append_left _ hA)
    obtain ⟨q1, q2⟩ := k a hn (r.there a ha).2
    exact ⟨q1, q2 (r.there a ha).1⟩
  · dsimp only
    split
    · rename_i hq
      obtain ⟨t, e⟩ := Option.isSome_iff_exists.mp hq
      refine ⟨(h2 i).1, fun a ha hm => ?_⟩
      rcases List.mem_append.mp hm with hm | hm
      · obtain ⟨v, _, r⟩ := h1 i t e
        rcases (n a hm).1 with z | z
        · exact (h2 i).2 a ha (List.mem_append_left _ z)
        · obtain ⟨o, q⟩ := (r.there a ha).2
          rw [z] at q; cases q
      · exact (h2 i).2 a ha (List.mem_append_right _ hm)
    · simp
  · intro hb
    dsimp only at ha hb
    split at ha
    · split at hb
      · exact h3 i j hij a ha hb
      · simp at hb
    · simp at ha
  · refine List.nodup_append.mpr ⟨nd, hAF.2.1, fun a ha b hb e => ?_⟩
    subst e
    rcases (n a ha).1 with z | z
    · exact hF a hb z
    · obtain ⟨o, q⟩ := ex a hb
      rw [z] at q; cases q
  · rcases List.mem_append.mp ha with ha | ha
    · exact (n a ha).2
    · obtain ⟨q1, q2⟩ := k a (hF a ha) (ex a ha)
      exact ⟨q2 (s.fr.2 a (List.mem_append_right _ ha)).1, by obtain ⟨o, z⟩ := ex a ha; exact ⟨o, q1.trans z⟩⟩
theorem SR.sh_none (s : SR Z Sh F ms σ H env) {p : Addr} (h : H p = none) : Sh p = none := by
  cases e : Sh p with
  | none => rfl
  | some o => rw [s.sub p o e] at h; cases h
theorem grow_upd {p : Addr} {o : HO} (h : Sh p = none) : Grow Sh (upd Sh p o) := fun a u e => by
  rw [upd_ne (ne_of_none e h)]; exact e
/-- a new object, in flight -/
theorem SR.new (s : SR Z Sh F ms σ H env) {p : Addr} {o : HO} (h : H p = none) : SR Z Sh (p :: F) ms σ (upd H p o) env := by
  have hs := s.sh_none h
  refine SR.step (A := []) (A' := [p]) s (fun _ _ e => e) (fun a u e => ?_) (fun a _ ⟨u, e⟩ => ⟨upd_ne (ne_of_none e h), fun z => z⟩) (fun a ha => ?_) (by simp)
  · rw [upd_ne (ne_of_none e hs)]; exact s.sub a u e
  · obtain rfl : a = p := by simpa using ha
    exact ⟨.inr h, hs, o, upd_same⟩
/-- a new object, shared from the start -/
theorem SR.newSh (s : SR Z Sh F ms σ H env) {p : Addr} {o : HO} (h : H p = none) : SR Z (upd Sh p o) F ms σ (upd H p o) env := by
  have hs := s.sh_none h
  refine SR.step (A := []) (A' := []) s (grow_upd hs) (fun a u e => ?_) (fun a _ ⟨u, e⟩ => ⟨upd_ne (ne_of_none e h), fun z => by rw [upd_ne (ne_of_none e h)]; exact z⟩) (fun a ha => by simp at ha) (by simp)
  by_cases q : a = p
  · subst q; rw [upd_same] at e ⊢; exact e
  · rw [upd_ne q] at e ⊢; exact s.sub a u e
theorem Aft.new (h : H' = H) : Aft Sh F H Sh H' := ⟨fun _ _ e => e, fun a _ => by rw [h]⟩
theorem SR.aft_upd (s : SR Z Sh F ms σ H env) {p : Addr} {o : HO} (h : H p = none) : Aft Sh F H Sh (upd H p o) := ⟨fun _ _ e => e, fun a ha => by
  obtain ⟨_, u, e⟩ := s.fr.2 a ha
  exact upd_ne (ne_of_none e h)⟩
theorem SR.aft_updSh (s : SR Z Sh F ms σ H env) {p : Addr} {o : HO} (h : H p = none) : Aft Sh F H (upd Sh p o) (upd H p o) := ⟨grow_upd (s.sh_none h), fun a ha => by
  obtain ⟨_, u, e⟩ := s.fr.2 a ha
  exact upd_ne (ne_of_none e h)⟩
/-- a variable's value -/
theorem SR.get (s : SR Z Sh F ms σ H env) {i : Nat} {t : T} (e : (env[i]?).bind id = some t) : ∃ v A, σ[i]? = some (some v) ∧ Rep Z Sh H v t A ∧ (∀ a ∈ A, a ∉ F) ∧ A.Nodup := by
  obtain ⟨B, h1, h2, h3⟩ := s.slots
  obtain ⟨v, e1, r⟩ := h1 i t e
  exact ⟨v, B i, e1, r, (h2 i).2, (h2 i).1⟩
/-- a variable's own object is changed, or shared -/
theorem SR.change (s : SR Z Sh F ms σ H env) {i : Nat} {t : T} (e : (env[i]?).bind id = some t) : ∃ v Ai, σ[i]? = some (some v) ∧ Rep Z Sh H v t Ai ∧ (∀ a ∈ Ai, a ∉ F) ∧ Ai.Nodup ∧
    ∀ (Sh' H' : Hp) (t' : T) (A' : List Addr), Grow Sh Sh' → (∀ a o, Sh' a = some o → H' a = some o) → (∀ a, a ∉ Ai → (∃ o, H a = some o) → H' a = H a ∧ (Sh a = none → Sh' a = none)) →
      Rep Z Sh' H' v t' A' → (∀ a ∈ A', a ∈ Ai ∨ H a = none) → A'.Nodup → SR Z Sh' F ms σ H' (env.set i (some t')) := by
  obtain ⟨B, h1, h2, h3⟩ := s.slots
  obtain ⟨v, e1, r⟩ := h1 i t e
  have hi : i < env.length := by
    by_cases z : i < env.length
    · exact z
    · rw [List.getElem?_eq_none (by omega)] at e; cases e
  refine ⟨v, B i, e1, r, (h2 i).2, (h2 i).1, fun Sh' H' t' A' g sub k r' n nd => ⟨by rw [List.length_set]; exact s.len, sub, ⟨fun j => if j = i then A' else if ((env[j]?).bind id).isSome then B j else [], fun j u q => ?_, fun j => ?_, fun j l hjl a ha => ?_⟩, ⟨s.fr.1, fun a ha => ?_⟩, s.ms⟩⟩
  · by_cases z : j = i
    · subst z
      rw [List.getElem?_set_self hi] at q
      cases q
      exact ⟨v, e1, by dsimp only; rw [if_pos rfl]; exact r'⟩
    · rw [List.getElem?_set_ne (Ne.symm z)] at q
      obtain ⟨w, e2, r2⟩ := h1 j u q
      refine ⟨w, e2, ?_⟩
      simp only [if_neg z, q, Option.isSome_some, if_true]
      refine r2.mono g fun a ha => ?_
      obtain ⟨q1, q2⟩ := k a (fun x => h3 j i z a ha x) (r2.there a ha).2
      exact ⟨q1, q2 (r2.there a ha).1⟩
  · by_cases z : j = i
    · dsimp only
      rw [if_pos z]
      refine ⟨nd, fun a ha hf => ?_⟩
      rcases n a ha with x | x
      · exact (h2 i).2 a x hf
      · obtain ⟨_, o, y⟩ := s.fr.2 a hf
        rw [x] at y; cases y
    · dsimp only
      rw [if_neg z]
      split
      · exact h2 j
      · simp
  · intro hb
    dsimp only at ha hb
    have far : ∀ {x : Nat} {a : Addr}, x ≠ i → ((env[x]?).bind id).isSome = true → a ∈ B x → a ∉ A' := fun {x a} hx hs hax hA' => by
      rcases n a hA' with y | y
      · exact h3 x i hx a hax y
      · obtain ⟨u, hu⟩ := Option.isSome_iff_exists.mp hs
        obtain ⟨w, _, r2⟩ := h1 x u hu
        obtain ⟨o, q⟩ := (r2.there a hax).2
        rw [y] at q; cases q
    by_cases zj : j = i
    · rw [if_pos zj] at ha
      have zl : l ≠ i := fun q => hjl (zj.trans q.symm)
      rw [if_neg zl] at hb
      split at hb
      · rename_i hs
        exact far zl hs hb ha
      · simp at hb
    · rw [if_neg zj] at ha
      split at ha
      · rename_i hs
        by_cases zl : l = i
        · rw [if_pos zl] at hb
          exact far zj hs ha hb
        · rw [if_neg zl] at hb
          split at hb
          · exact h3 j l hjl a ha hb
          · simp at hb
      · simp at ha
  · obtain ⟨q1, o, q2⟩ := s.fr.2 a ha
    have hn : a ∉ B i := fun x => (h2 i).2 a x ha
    obtain ⟨k1, k2⟩ := k a hn ⟨o, q2⟩
    exact ⟨k2 q1, o, k1.trans q2⟩
/-- a value in flight goes to a variable -/
theorem SR.store (s : SR Z Sh (A ++ F) ms σ H env) {i : Nat} {v : V} {t : T} (r : Rep Z Sh H v t A) (hi : i < env.length) (hm : ∀ p ∈ ms, p.1 ≠ i) : SR Z Sh F ms (σ.set i (some v)) H (env.set i (some t)) := by
  obtain ⟨B, h1, h2, h3⟩ := s.slots
  have hAF := List.nodup_append.mp s.fr.1
  refine ⟨by rw [List.length_set, List.length_set]; exact s.len, s.sub, ⟨fun j => if j = i then A else B j, fun j u q => ?_, fun j => ?_, fun j l hjl a ha hb => ?_⟩, ⟨hAF.2.1, fun a ha => s.fr.2 a (List.mem_append_right _ ha)⟩, fun p hp => ?_⟩
  · by_cases z : j = i
    · subst z
      rw [List.getElem?_set_self hi] at q
      cases q
      exact ⟨v, by rw [List.getElem?_set_self (by rw [s.len]; exact hi)], by dsimp only; rw [if_pos rfl]; exact r⟩
    · rw [List.getElem?_set_ne (Ne.symm z)] at q
      obtain ⟨w, e2, r2⟩ := h1 j u q
      exact ⟨w, by rw [List.getElem?_set_ne (Ne.symm z)]; exact e2, by dsimp only; rw [if_neg z]; exact r2⟩
  · by_cases z : j = i
    · dsimp only
      rw [if_pos z]
      exact ⟨hAF.1, fun a ha hf => hAF.2.2 a ha a hf rfl⟩
    · dsimp only
      rw [if_neg z]
      exact ⟨(h2 j).1, fun a ha hf => (h2 j).2 a ha (List.mem_append_right _ hf)⟩
  · dsimp only at ha hb
    by_cases zj : j = i
    · rw [if_pos zj] at ha
      have zl : l ≠ i := fun q => hjl (zj.trans q.symm)
      rw [if_neg zl] at hb
      exact (h2 l).2 a hb (List.mem_append_left _ ha)
    · rw [if_neg zj] at ha
      by_cases zl : l = i
      · rw [if_pos zl] at hb
        exact (h2 j).2 a ha (List.mem_append_left _ hb)
      · rw [if_neg zl] at hb
        exact h3 j l hjl a ha hb
  · rw [List.getElem?_set_ne (Ne.symm (hm p hp))]
    exact s.ms p hp
/-- a variable's value is taken out -/
theorem SR.take (s : SR Z Sh F ms σ H env) {i : Nat} {t : T} (e : (env[i]?).bind id = some t) : ∃ v A, σ[i]? = some (some v) ∧ Rep Z Sh H v t A ∧ SR Z Sh (A ++ F) ms σ H (env.set i none) := by
  obtain ⟨B, h1, h2, h3⟩ := s.slots
  obtain ⟨v, e1, r⟩ := h1 i t e
  refine ⟨v, B i, e1, r, by rw [List.length_set]; exact s.len, s.sub, ⟨fun j => if j = i then [] else B j, fun j u q => ?_, fun j => ?_, fun j l hjl a ha hb => ?_⟩, ⟨List.nodup_append.mpr ⟨(h2 i).1, s.fr.1, fun a ha b hb z => (h2 i).2 a ha (z ▸ hb)⟩, fun a ha => ?_⟩, s.ms⟩
  · by_cases z : j = i
    · subst z
      have hi : j < env.length := by
        by_cases z : j < env.length
        · exact z
        · rw [List.getElem?_eq_none (by omega)] at e; cases e
      rw [List.getElem?_set_self hi] at q
      cases q
    · rw [List.getElem?_set_ne (Ne.symm z)] at q
      obtain ⟨w, e2, r2⟩ := h1 j u q
      exact ⟨w, e2, by dsimp only; rw [if_neg z]; exact r2⟩
  · by_cases z : j = i
    · dsimp only
      rw [if_pos z]; simp
    · dsimp only
      rw [if_neg z]
      refine ⟨(h2 j).1, fun a ha hm => ?_⟩
      rcases List.mem_append.mp hm with hm | hm
      · exact h3 j i z a ha hm
      · exact (h2 j).2 a ha hm
  · dsimp only at ha hb
    by_cases zj : j = i
    · rw [if_pos zj] at ha; simp at ha
    · rw [if_neg zj] at ha
      by_cases zl : l = i
      · rw [if_pos zl] at hb; simp at hb
      · rw [if_neg zl] at hb
        exact h3 j l hjl a ha hb
  · rcases List.mem_append.mp ha with ha | ha
    · exact r.there a ha
    · exact s.fr.2 a ha
end
end Vi

set_option autoImplicit false
set_option Elab.async false
set_option linter.all false
set_option maxRecDepth 100000
/-! VI: readings, operands, operators. -/
namespace Vi
open PySem PySem.Spec PyProof.Rows L2

def Out {α : Type} (r : R α) (P : α → Env → Prop) (X : Nat → T → Env → Prop) : Prop := match r with
  | .no => False
  | .ok a e => P a e
  | .ex c d e => X c d e
theorem Out.bind {α β : Type} {r : R α} {f : α → Env → R β} {P : β → Env → Prop} {X : Nat → T → Env → Prop} (h : Out (r.bind f) P X) : Out r (fun a e => Out (f a e) P X) X := by
  cases r with
  | no => exact h
  | ok a e => exact h
  | ex c d e => exact h
theorem Out.imp {α : Type} {r : R α} {P Q : α → Env → Prop} {X Y : Nat → T → Env → Prop} (h : Out r P X) (hp : ∀ a e, P a e → Q a e) (hx : ∀ c d e, X c d e → Y c d e) : Out r Q Y := by
  cases r with
  | no => exact h
  | ok a e => exact hp a e h
  | ex c d e => exact hx c d e h
/-- what is wanted of an exception -/
structure Xp (Z : Rw) where
  p : Hp → List Addr → List (Nat × V) → Hp → Nat → T → Env → Prop
  mono : ∀ {Sh Sh' H H' : Hp} {F : List Addr} (A : List Addr) {ms : List (Nat × V)} {k : Nat} {d : T} {e : Env}, Aft Sh F H Sh' H' → p Sh F ms H k d e → p Sh' (A ++ F) ms H' k d e
/-- none may come -/
def Xp.none (Z : Rw) : Xp Z := ⟨fun _ _ _ _ _ _ _ => False, fun {_ _ _ _ _} _ {_ _ _ _} _ h => h⟩

section
variable {Z : Rw} {xp : Xp Z}
/-- what a value in flight is to be -/
def ORep (Z : Rw) (σ : L2.St) (Sh H : Hp) (v : V) (o : O) (A : List Addr) : Prop := match o with
  | .v t => Rep Z Sh H v t A
  | .r i => A = [] ∧ σ[i]? = some (some v)
/-- an expression by its meaning: a value that is one's own -/
def rS (Z : Rw) (xp : Xp Z) (m : M T) : TE := fun σ H Q => ∃ Sh F ms env, SR Z Sh F ms σ H env ∧
  Out (m env) (fun t env' => ∀ v H' Sh' A, SR Z Sh' (A ++ F) ms σ H' env' → Rep Z Sh' H' v t A → Aft Sh F H Sh' H' → Q v H') (xp.p Sh F ms H)
/-- an operand -/
def rO (Z : Rw) (xp : Xp Z) (m : M O) : TE := fun σ H Q => ∃ Sh F ms env, SR Z Sh F ms σ H env ∧
  Out (m env) (fun o env' => ∀ v H' Sh' A, SR Z Sh' (A ++ F) ms σ H' env' → ORep Z σ Sh' H' v o A → Aft Sh F H Sh' H' → Q v H') (xp.p Sh F ms H)
/-- a test -/
def rT (Z : Rw) (xp : Xp Z) (m : M Bool) : TT := fun σ H Q => ∃ Sh F ms env, SR Z Sh F ms σ H env ∧
  Out (m env) (fun b env' => ∀ H' Sh', SR Z Sh' F ms σ H' env' → Aft Sh F H Sh' H' → Q b H') (xp.p Sh F ms H)
end
theorem peI {X : Cx} {e : Expr} {t t' : TE} (h : PE X e t) (w : ∀ σ H Q, t' σ H Q → t σ H Q) : PE X e t' := ⟨fun pins s σ H Q I q => h.run pins s σ H Q I (w σ H Q q)⟩
theorem ptI {X : Cx} {e : Expr} {t t' : TT} (h : PT X e t) (w : ∀ σ H Q, t' σ H Q → t σ H Q) : PT X e t' := ⟨fun pins s σ H Q I q => h.run pins s σ H Q I (w σ H Q q)⟩
theorem pwI {X : Cx} {e : Expr} {t t' : TT} (h : PW X e t) (w : ∀ σ H Q, t' σ H Q → t σ H Q) : PW X e t' := ⟨fun wh pins s σ H Q I q => h.run wh pins s σ H Q I (w σ H Q q)⟩
theorem psI {X : Cx} {st : Stmt} {t t' : TS} (h : PS X st t) (w : ∀ D σ H, t' D σ H → t D σ H) : PS X st t' := ⟨fun pins s σ H D I q => h.run pins s σ H D I (w D σ H q)⟩
theorem pssI {X : Cx} {st : List Stmt} {t t' : TS} (h : PSs X st t) (w : ∀ D σ H, t' D σ H → t D σ H) : PSs X st t' := ⟨fun pins s σ H D I q => h.run pins s σ H D I (w D σ H q)⟩
theorem paI {X : Cx} {es : List Expr} {t t' : TA} (h : PA X es t) (w : ∀ σ H Q, t' σ H Q → t σ H Q) : PA X es t' := ⟨fun pos pins s σ H Q I q => h.run pos pins s σ H Q I (w σ H Q q)⟩

section
variable {Z : Rw} {xp : Xp Z} {X : Cx} {e a b : Expr} {m ma mb : M T} {pos : Pos}
/-! ### operands -/
theorem ORep.stay {σ : L2.St} {Sh H Sh' H' : Hp} {F A : List Addr} {v : V} {o : O} (r : ORep Z σ Sh H v o A) (h : Aft Sh F H Sh' H') (hA : ∀ x ∈ A, x ∈ F) (hS : ∀ x ∈ F, Sh' x = none) : ORep Z σ Sh' H' v o A := by
  cases o with
  | v t => exact Rep.stay r h hA hS
  | r i => exact r
theorem ORep.fin {σ : L2.St} {Sh H : Hp} {F A : List Addr} {ms : List (Nat × V)} {env : Env} {v : V} {o : O} {t : T} (r : ORep Z σ Sh H v o A) (s : SR Z Sh F ms σ H env) (e : o.get env = some t) : ∃ A, Rep Z Sh H v t A := by
  cases o with
  | v u =>
    have e : some u = some t := e
    cases e
    exact ⟨A, r⟩
  | r i =>
    obtain ⟨w, B, e1, q, _⟩ := s.get e
    obtain ⟨_, e2⟩ := r
    rw [e1] at e2; cases e2
    exact ⟨B, q⟩
theorem rO_strong (h : PE X e (rS Z xp m)) : PE X e (rO Z xp (opd none m)) := peI h fun σ H Q ⟨Sh, F, ms, env, sr, out⟩ => ⟨Sh, F, ms, env, sr, out.bind.imp (fun t env' q => q) (fun _ _ _ x => x)⟩
theorem rO_rd {i : Nat} (h : PE X e (tVar i)) : PE X e (rO Z xp (opd (some i) m)) := peI h fun σ H Q ⟨Sh, F, ms, env, sr, out⟩ => by
  show ∃ v, σ[i]? = some (some v) ∧ Q v H
  cases q : (env[i]?).bind id with
  | none =>
    simp only [opd, q] at out
    exact out.elim
  | some t =>
    simp only [opd, q] at out
    obtain ⟨v, A, e1, _⟩ := sr.get q
    exact ⟨v, e1, out v H Sh [] sr ⟨rfl, e1⟩ Aft.refl⟩
theorem out_need {α : Type} {o : Option α} {env : Env} {P : α → Env → Prop} {Y : Nat → T → Env → Prop} (h : Out (need o env) P Y) : ∃ a, o = some a ∧ P a env := by
  cases o with
  | none => exact h.elim
  | some a => exact ⟨a, rfl, h⟩
theorem out_fin1 {o : O} {f : T → Option T} {env : Env} {P : T → Env → Prop} {Y : Nat → T → Env → Prop} (h : Out (fin1 o f env) P Y) : ∃ a t, o.get env = some a ∧ f a = some t ∧ P t env := by
  unfold fin1 at h
  cases e : o.get env with
  | none => rw [e] at h; exact h.elim
  | some a =>
    rw [e] at h
    obtain ⟨t, h1, h2⟩ := out_need h
    exact ⟨a, t, rfl, h1, h2⟩
theorem out_fin2 {o p : O} {f : T → T → Option T} {env : Env} {P : T → Env → Prop} {Y : Nat → T → Env → Prop} (h : Out (fin2 o p f env) P Y) : ∃ a b t, o.get env = some a ∧ p.get env = some b ∧ f a b = some t ∧ P t env := by
  unfold fin2 at h
  cases e : o.get env with
  | none => rw [e] at h; exact h.elim
  | some a =>
    cases e2 : p.get env with
    | none => rw [e, e2] at h; exact h.elim
    | some b =>
      rw [e, e2] at h
      obtain ⟨t, h1, h2⟩ := out_need h
      exact ⟨a, b, t, rfl, rfl, h1, h2⟩
theorem out_fin3 {o p q : O} {f : T → T → T → Option T} {env : Env} {P : T → Env → Prop} {Y : Nat → T → Env → Prop} (h : Out (fin3 o p q f env) P Y) : ∃ a b c t, o.get env = some a ∧ p.get env = some b ∧ q.get env = some c ∧ f a b c = some t ∧ P t env := by
  unfold fin3 at h
  cases e : o.get env with
  | none => rw [e] at h; exact h.elim
  | some a =>
    cases e2 : p.get env with
    | none => rw [e, e2] at h; exact h.elim
    | some b =>
      cases e3 : q.get env with
      | none => rw [e, e2, e3] at h; exact h.elim
      | some c =>
        rw [e, e2, e3] at h
        obtain ⟨t, h1, h2⟩ := out_need h
        exact ⟨a, b, c, t, rfl, rfl, rfl, h1, h2⟩

/-! ### operations by values -/
/-- what is wanted of a new value -/
def Fin (Z : Rw) (Sh : Hp) (F : List Addr) (ms : List (Nat × V)) (σ : L2.St) (H : Hp) (env : Env) (t : T) (Q : VK) : Prop := ∀ v H' Sh' C, SR Z Sh' (C ++ F) ms σ H' env → Rep Z Sh' H' v t C → Aft Sh F H Sh' H' → Q v H'
def Ok2 (Z : Rw) (r : R2) (f : T → T → Option T) : Prop := ∀ (Sh : Hp) (F : List Addr) (ms : List (Nat × V)) (σ : L2.St) (H : Hp) (env : Env) (x y : V) (ta tb : T) (A B : List Addr) (t : T) (Q : VK),
  SR Z Sh F ms σ H env → Rep Z Sh H x ta A → Rep Z Sh H y tb B → f ta tb = some t → Fin Z Sh F ms σ H env t Q → r x y H Q
def Ok1 (Z : Rw) (r : V → Hp → VK → Prop) (f : T → Option T) : Prop := ∀ (Sh : Hp) (F : List Addr) (ms : List (Nat × V)) (σ : L2.St) (H : Hp) (env : Env) (x : V) (ta : T) (A : List Addr) (t : T) (Q : VK),
  SR Z Sh F ms σ H env → Rep Z Sh H x ta A → f ta = some t → Fin Z Sh F ms σ H env t Q → r x H Q
/-- a value without places of its own -/
theorem Fin.sh {Sh : Hp} {F : List Addr} {ms : List (Nat × V)} {σ : L2.St} {H : Hp} {env : Env} {t : T} {Q : VK} {v : V} (f : Fin Z Sh F ms σ H env t Q) (s : SR Z Sh F ms σ H env) (r : Rp Z Sh v t) : Q v H := f v H Sh [] s (.sh r) Aft.refl
/-- two operands, one operation -/
def mBin (ma mb : M O) (f : T → T → Option T) : M T := fun e => (ma e).bind fun o e => (mb e).bind fun p e => fin2 o p f e
theorem bin_imp {na nb : M O} {r : R2} {f : T → T → Option T} (ok : Ok2 Z r f) : ∀ σ H Q, rS Z xp (mBin na nb f) σ H Q → tOp r (rO Z xp na) (rO Z xp nb) σ H Q := fun σ H Q ⟨Sh, F, ms, env, sr, out⟩ => by
  refine ⟨Sh, F, ms, env, sr, out.bind.imp (fun o e1 h1 v1 H1 Sh1 A s1 r1 a1 => ?_) fun _ _ _ x => x⟩
  refine ⟨Sh1, A ++ F, ms, e1, s1, h1.bind.imp (fun p e2 h2 v2 H2 Sh2 B s2 r2 a2 => ?_) fun _ _ _ x => xp.mono A a1 x⟩
  obtain ⟨ta, tb, t, g1, g2, hf, fin⟩ := out_fin2 h2
  have s2' : SR Z Sh2 F ms σ H2 e2 := s2.less.less
  have q1 := r1.stay a2 (fun x hx => List.mem_append_left _ hx) (fun x hx => (s2.less.fr.2 x hx).1)
  obtain ⟨A', w1⟩ := q1.fin s2' g1
  obtain ⟨B', w2⟩ := r2.fin s2' g2
  exact ok Sh2 F ms σ H2 e2 v1 v2 ta tb A' B' t Q s2' w1 w2 hf fun v H' Sh' C s3 r3 a3 => fin v H' Sh' C s3 r3 ((a1.trans (a2.less fun x hx => List.mem_append_right _ hx)).trans a3)
def mUn (ma : M O) (f : T → Option T) : M T := fun e => (ma e).bind fun o e => fin1 o f e
theorem un_imp {na : M O} {r : V → Hp → VK → Prop} {f : T → Option T} (ok : Ok1 Z r f) : ∀ σ H Q, rS Z xp (mUn na f) σ H Q → tUn r (rO Z xp na) σ H Q := fun σ H Q ⟨Sh, F, ms, env, sr, out⟩ => by
  refine ⟨Sh, F, ms, env, sr, out.bind.imp (fun o e1 h1 v1 H1 Sh1 A s1 r1 a1 => ?_) fun _ _ _ x => x⟩
  obtain ⟨ta, t, g1, hf, fin⟩ := out_fin1 h1
  obtain ⟨A', w1⟩ := r1.fin s1.less g1
  exact ok Sh1 F ms σ H1 e1 v1 ta A' t Q s1.less w1 hf fun v H' Sh' C s3 r3 a3 => fin v H' Sh' C s3 r3 (a1.trans a3)
end
end Vi

set_option autoImplicit false
set_option Elab.async false
set_option linter.all false
set_option maxRecDepth 100000
/-! VI: each operation on values. -/
namespace Vi
open PySem PySem.Spec PyProof.Rows L2

theorem sOf_append (a b : List Nat) : sOf a ++ sOf b = sOf (a ++ b) := by
  show Str.append (sOf a) (sOf b) = _
  simp [Str.append, sOf]
theorem sOf_length (a : List Nat) : (sOf a).length = a.length := by simp [sOf, Str.length]
theorem sOf_cps (a : List Nat) : (sOf a).cps.toList = a := by simp [sOf]
theorem sOf_inj {a b : List Nat} (h : sOf a = sOf b) : a = b := by rw [← sOf_cps a, h, sOf_cps]
theorem line_eq : line = sizeLine := sizeLine_eq.symm
section
variable {Z : Rw} {Sh H : Hp} {v : V} {A F : List Addr} {ms : List (Nat × V)} {σ : L2.St} {env : Env} {Q : VK}
theorem SR.sqL (s : SR Z Sh F ms σ H env) {K : PySem.W.Frag} {a : Addr} {xs : List V} (h : SqL K Sh a xs) : SqL K H a xs := by
  rcases h with h | h
  · exact .inl (Grow.rd (Sh := Sh) (Sh' := H) s.sub h)
  · exact .inr h
theorem Rep.intI {i : Int} (r : Rep Z Sh H v (.int i) A) : v = .int i := by cases r with | sh h => cases h; rfl
theorem Rep.blI {b : Bool} (r : Rep Z Sh H v (.bl b) A) : v = .bl b := by cases r with | sh h => cases h; rfl
theorem Rep.strI {s : List Nat} (r : Rep Z Sh H v (.str s) A) : v = .str (sOf s) ∧ okS s := by cases r with | sh h => cases h with | str _ h => exact ⟨rfl, h⟩
theorem Rep.nonI (r : Rep Z Sh H v .non A) : v = .non := by cases r with | sh h => cases h; rfl
theorem SR.rd (s : SR Z Sh F ms σ H env) {a : Addr} {u : HO} (h : Rd Sh a u) : Rd H a u := Grow.rd (Sh := Sh) (Sh' := H) s.sub h
theorem SR.sqT (s : SR Z Sh F ms σ H env) {K : PySem.W.Frag} {a : Addr} {xs : List V} (h : SqT K Sh a xs) : SqT K H a xs := Grow.sqT (Sh := Sh) (Sh' := H) s.sub h
theorem Rep.tupI {ts : List T} (r : Rep Z Sh H v (.tup ts) A) (s : SR Z Sh F ms σ H env) : ∃ a vs, v = .ref a ∧ SqT Z.K H a vs ∧ RpL Z Sh vs ts ∧ SqT Z.K Sh a vs := by
  cases r with
  | sh h => cases h with | tup h hl hs => exact ⟨_, _, rfl, s.sqT h, ⟨hl, hs⟩, h⟩
theorem Rep.lstI {o : Bool} {ts : List T} (r : Rep Z Sh H v (.lst o ts) A) (s : SR Z Sh F ms σ H env) : ∃ a vs, v = .ref a ∧ SqL Z.K H a vs ∧ RpL Z Sh vs ts := by
  cases r with
  | sh h => cases h with | lst h hl hs => exact ⟨_, _, rfl, s.sqL h, ⟨hl, hs⟩⟩
  | lst h n hs => exact ⟨_, _, rfl, .inl (.inl h), hs⟩
theorem Rd.sq {K : PySem.W.Frag} {H : Hp} {a : Addr} {xs : List V} (h : SqL K H a xs) : SqL K H a xs := h
/-- a new list -/
theorem Fin.newL {ts : List T} (f : Fin Z Sh F ms σ H env (.lst true ts) Q) (s : SR Z Sh F ms σ H env) {vs : List V} (r : RpL Z Sh vs ts) {p : Addr} (h : H p = none) : Q (.ref p) (upd H p (.lst vs)) :=
  f _ _ Sh [p] (s.new h) (.lst upd_same (s.sh_none h) r) (s.aft_upd h)
/-- a new tuple -/
theorem Fin.newT {ts : List T} (f : Fin Z Sh F ms σ H env (.tup ts) Q) (s : SR Z Sh F ms σ H env) {vs : List V} (r : RpL Z Sh vs ts) {p : Addr} (h : H p = none) : Q (.ref p) (upd H p (.tup vs)) := by
  have r' := r.mono (grow_upd (o := .tup vs) (s.sh_none h))
  exact f _ _ (upd Sh p (.tup vs)) [] (s.newSh h) (.sh (.tup (.inl (.inl upd_same)) r'.1 r'.2)) (s.aft_updSh h)
end

/-! ### + -/
def rCatR (K : PySem.W.Frag) : R2 := fun x y H Q => ∃ l b xs zs, x = .ref l ∧ y = .ref b ∧ SqL K H l xs ∧ SqL K H b zs ∧ xs.length + zs.length ≤ sizeLine ∧ ∀ p, H p = none → Q (.ref p) (upd H p (.lst (xs ++ zs)))
theorem op_catR {X : Cx} : OpR X (binaryOp .Add) (rCatR X.K) := by
  intro pins s σ H x y v u Q I rx ry h
  obtain ⟨l, b, xs, zs, rfl, rfl, hH, hB, hz, q⟩ := h
  cases rx
  cases ry
  obtain ⟨its, r, p, z⟩ := I.list hH
  obtain ⟨its2, r2, p2, z2⟩ := I.list hB
  have hl := r.length
  have hl2 := r2.length
  obtain ⟨⟨cls, dd, data, sl⟩, ho, hc, n, hd⟩ := p.isList
  obtain ⟨⟨cls2, dd2, data2, sl2⟩, ho2, hc2, n2, hd2⟩ := p2.isList
  simp only at hc hd hc2 hd2
  subst hc hd hc2 hd2
  have e : its.toArray ++ its2.toArray = (its ++ its2).toArray := by simp
  refine concat_meets ⟨_, ho, rfl⟩ ⟨_, ho2, rfl⟩ noFill_list_add seq_list_add PySem.F.slot_list_add PySem.F.entry_list_add (PySem.F.args_list_add_2 _ _) (list_addW l b its.toArray its2.toArray n n2 dd dd2 sl sl2 (by rw [List.size_toArray, List.size_toArray]; omega)) ⟨ho, ho2, ?_⟩
  rw [e]
  exact ⟨.ref _, _, I.lnew (t' := s.toks) (r.append r2) (by rw [List.length_append]; omega), rfl, q _ I.fresh⟩
def rStrAdd : R2 := fun x y H Q => ∃ i j, x = .str i ∧ y = .str j ∧ i.length + j.length ≤ sizeLine ∧ Q (.str (i ++ j)) H
def rAddAll (K : PySem.W.Frag) : R2 := fun x y H Q => (rI0 (fun i j => .int (i + j)) x y H Q ∨ rStrAdd x y H Q) ∨ (rCatA K x y H Q ∨ rCatR K x y H Q)
theorem op_addAll {X : Cx} : OpR X (binaryOp .Add) (rAddAll X.K) := OpR.or (OpR.or op_add op_add_str) (OpR.or op_catA op_catR)
theorem ok_add {Z : Rw} : Ok2 Z (rAddAll Z.K) (binT .add) := by
  intro Sh F ms σ H env x y ta tb A B t Q s ra rb hf fin
  have hl := line_eq
  cases ta <;> cases tb <;> simp only [binT] at hf <;> try (cases hf; done)
  · cases hf
    cases ra.intI; cases rb.intI
    exact .inl (.inl ⟨_, _, rfl, rfl, fin.sh s (.int _)⟩)
  · split at hf
    · rename_i hz
      cases hf
      obtain ⟨rfl, o1⟩ := ra.strI
      obtain ⟨rfl, o2⟩ := rb.strI
      refine .inl (.inr ⟨_, _, rfl, rfl, by rw [sOf_length, sOf_length]; omega, ?_⟩)
      rw [sOf_append]
      exact fin.sh s (.str _ ⟨by rw [List.length_append]; exact hz, fun c hc => (List.mem_append.mp hc).elim (o1.2 c) (o2.2 c)⟩)
    · cases hf
  · split at hf
    · rename_i ts us hz
      cases hf
      obtain ⟨a, vs, rfl, q1, r1, k1⟩ := ra.tupI s
      obtain ⟨b, ws, rfl, q2, r2, k2⟩ := rb.tupI s
      refine .inr (.inl ⟨a, b, vs, ws, rfl, rfl, q1, q2, by rw [r1.1, r2.1]; omega, fun e => ?_, fun e e2 => ?_, fun _ _ p hp => fin.newT s (r1.append r2) hp⟩)
      · have e' : ts = [] := List.length_eq_zero_iff.mp (by rw [← r1.1, e]; rfl)
        subst e'
        exact fin.sh s (.tup k2 r2.1 r2.2)
      · have e' : us = [] := List.length_eq_zero_iff.mp (by rw [← r2.1, e2]; rfl)
        subst e'
        rw [List.append_nil] at fin
        exact fin.sh s (.tup k1 r1.1 r1.2)
    · cases hf
  · split at hf
    · rename_i hz
      cases hf
      obtain ⟨a, vs, rfl, q1, r1⟩ := ra.lstI s
      obtain ⟨b, ws, rfl, q2, r2⟩ := rb.lstI s
      exact .inr (.inr ⟨a, b, vs, ws, rfl, rfl, q1, q2, by rw [r1.1, r2.1]; omega, fun p hp => fin.newL s (r1.append r2) hp⟩)
    · cases hf

/-! ### other arithmetic -/
theorem ok_sub {Z : Rw} : Ok2 Z (rI0 fun i j => .int (i - j)) (binT .sub) := by
  intro Sh F ms σ H env x y ta tb A B t Q s ra rb hf fin
  cases ta <;> cases tb <;> simp only [binT] at hf <;> try (cases hf; done)
  cases hf
  cases ra.intI; cases rb.intI
  exact ⟨_, _, rfl, rfl, fin.sh s (.int _)⟩
theorem foldl_rep {α : Type} (l : Array α) : ∀ (n : Nat) (acc : List α), (List.replicate n l).foldl (· ++ ·) acc.toArray = (acc ++ (List.replicate n l.toList).flatten).toArray
  | 0, acc => by simp
  | n + 1, acc => by
    rw [List.replicate_succ, List.foldl_cons, List.replicate_succ, List.flatten_cons, ← List.append_assoc]
    have e : acc.toArray ++ l = (acc ++ l.toList).toArray := by simp
    rw [e]
    exact foldl_rep l n _
def rStrMul : R2 := fun x y H Q => ∃ (s : List Nat) (k : Int), x = .str (sOf s) ∧ y = .int k ∧ s.length ≤ 1000 ∧ 0 ≤ k ∧ k ≤ 1000 ∧ Q (.str (sOf (List.replicate k.toNat s).flatten)) H
theorem op_strMul {X : Cx} : OpR X (binaryOp .Mult) rStrMul := by
  intro pins st σ H x y v u Q I rx ry h
  obtain ⟨s, k, rfl, rfl, h1, h2, h3, q⟩ := h
  obtain ⟨t, rfl⟩ := rx
  obtain ⟨t', rfl⟩ := ry
  have hl : (sOf s).length = s.length := sOf_length s
  refine PySem.P.mul_str ?_ (fun _ _ hh => ?_) (fun _ _ => ?_) ?_
  · have e1 : ¬ k < -(2 ^ 63 : Int) := by omega
    have e2 : ¬ k ≥ 2 ^ 63 := by omega
    rw [decide_eq_false e1, decide_eq_false e2]; rfl
  · have hk : 0 < k := by omega
    have : (1000 : Int) ≤ (2 ^ 63 - 1) / k := by
      rw [Int.le_ediv_iff_mul_le hk]
      have : (1000 : Int) * k ≤ 1000000 := by omega
      omega
    omega
  · have hn : k.toNat ≤ 1000 := by omega
    have : (sOf s).length * k.toNat ≤ 1000 * 1000 := Nat.mul_le_mul (by omega) hn
    have hz := sizeLine_eq
    unfold Builtin.Str.tooLong
    first
      | exact decide_eq_false (by omega)
      | (simp; omega)
  · by_cases c1 : k < 1
    · rw [if_pos c1]
      have e : k = 0 := by omega
      subst e
      exact ⟨by decide, ⟨.str (sOf []), H, I.tok _, ⟨_, rfl⟩, q⟩⟩
    · rw [if_neg c1]
      by_cases c2 : (k == 1 || (sOf s).length == 0) = true
      · rw [if_pos c2]
        have e : (List.replicate k.toNat s).flatten = s := by
          rcases Bool.or_eq_true_iff.mp c2 with z | z
          · have : k = 1 := by simpa using z
            subst this; simp
          · have hz : s.length = 0 := by rw [← hl]; simpa using z
            have : s = [] := List.length_eq_zero_iff.mp hz
            subst this; simp
        rw [e] at q
        exact ⟨.str (sOf s), H, I, ⟨_, rfl⟩, q⟩
      · rw [if_neg c2]
        have e : (⟨(List.replicate k.toNat (sOf s).cps).foldl (· ++ ·) #[]⟩ : Str) = sOf (List.replicate k.toNat s).flatten := by
          have := foldl_rep (sOf s).cps k.toNat []
          rw [List.nil_append, sOf_cps] at this
          unfold sOf
          exact congrArg Str.mk this
        rw [e]
        refine ⟨?_, ⟨.str (sOf (List.replicate k.toNat s).flatten), H, I.tok _, ⟨_, rfl⟩, q⟩⟩
        rw [sOf_length, List.length_flatten, List.map_replicate, List.sum_replicate_nat, sizeLine_eq]
        have hn : k.toNat ≤ 1000 := by omega
        have : k.toNat * s.length ≤ 1000 * 1000 := Nat.mul_le_mul hn h1
        omega
def rMulAll (K : PySem.W.Frag) : R2 := fun x y H Q => rI CMul (fun i j => .int (i * j)) x y H Q ∨ (rRepT K x y H Q ∨ rStrMul x y H Q)
theorem op_mulAll {X : Cx} : OpR X (binaryOp .Mult) (rMulAll X.K) := OpR.or op_mul (OpR.or op_repT op_strMul)
theorem RpL.flat {Z : Rw} {Sh : Hp} {vs : List V} {ts : List T} (r : RpL Z Sh vs ts) : ∀ n : Nat, RpL Z Sh (List.replicate n vs).flatten (List.replicate n ts).flatten
  | 0 => RpL.nil
  | n + 1 => by
    rw [List.replicate_succ, List.flatten_cons, List.replicate_succ, List.flatten_cons]
    exact r.append (RpL.flat r n)
theorem ok_mul {Z : Rw} : Ok2 Z (rMulAll Z.K) (binT .mul) := by
  intro Sh F ms σ H env x y ta tb A B t Q s ra rb hf fin
  cases ta <;> cases tb <;> simp only [binT] at hf <;> try (cases hf; done)
  · split at hf
    · rename_i hz
      cases hf
      cases ra.intI; cases rb.intI
      refine .inl ⟨_, _, rfl, rfl, ?_, fin.sh s (.int _)⟩
      rcases Bool.or_eq_true_iff.mp hz with z | z
      · unfold in64 at z
        simp only [Bool.and_eq_true, decide_eq_true_eq] at z
        exact .inl ⟨by omega, by omega⟩
      · unfold in64 at z
        simp only [Bool.and_eq_true, decide_eq_true_eq] at z
        exact .inr ⟨by omega, by omega⟩
    · cases hf
  · split at hf
    · rename_i a k hz
      cases hf
      obtain ⟨rfl, h0⟩ := ra.strI
      cases rb.intI
      obtain ⟨h1, h2, h3⟩ := hz
      refine .inr (.inr ⟨_, _, rfl, rfl, h1, h2, h3, fin.sh s (.str _ ⟨?_, fun c hc => by
        obtain ⟨l, hl, hc⟩ := List.mem_flatten.mp hc
        rw [List.eq_of_mem_replicate hl] at hc
        exact h0.2 c hc⟩)⟩)
      rw [List.length_flatten, List.map_replicate, List.sum_replicate_nat]
      have hn : k.toNat ≤ 1000 := by omega
      have : k.toNat * a.length ≤ 1000 * 1000 := Nat.mul_le_mul hn h1
      show _ ≤ 16777216
      omega
    · cases hf
  · split at hf
    · rename_i a k hz
      cases hf
      obtain ⟨b, vs, rfl, q1, r1, k1⟩ := ra.tupI s
      cases rb.intI
      obtain ⟨h0, h1, h2, h3⟩ := hz
      refine .inr (.inl ⟨b, k, vs, rfl, rfl, q1, fun e => h0 (List.length_eq_zero_iff.mp (by rw [← r1.1, e]; rfl)), h1, h2, by rw [r1.1]; exact h3, fun p hp => fin.newT s (r1.flat k.toNat) hp⟩)
    · cases hf
theorem ok_fdiv {Z : Rw} : Ok2 Z (rI CDiv fun i j => .int (i / j)) (binT .fdiv) := by
  intro Sh F ms σ H env x y ta tb A B t Q s ra rb hf fin
  cases ta <;> cases tb <;> simp only [binT] at hf <;> try (cases hf; done)
  split at hf
  · rename_i hz
    cases hf
    cases ra.intI; cases rb.intI
    exact ⟨_, _, rfl, rfl, hz, fin.sh s (.int _)⟩
  · cases hf
theorem ok_mod {Z : Rw} : Ok2 Z (rI (fun _ j => 0 < j) fun i j => .int (i % j)) (binT .mod) := by
  intro Sh F ms σ H env x y ta tb A B t Q s ra rb hf fin
  cases ta <;> cases tb <;> simp only [binT] at hf <;> try (cases hf; done)
  split at hf
  · rename_i hz
    cases hf
    cases ra.intI; cases rb.intI
    exact ⟨_, _, rfl, rfl, hz, fin.sh s (.int _)⟩
  · cases hf
theorem ok_pow {Z : Rw} : Ok2 Z (rI CPow fun i j => .int (i ^ j.toNat)) (binT .pow) := by
  intro Sh F ms σ H env x y ta tb A B t Q s ra rb hf fin
  cases ta <;> cases tb <;> simp only [binT] at hf <;> try (cases hf; done)
  split at hf
  · rename_i hz
    cases hf
    cases ra.intI; cases rb.intI
    exact ⟨_, _, rfl, rfl, ⟨hz.1, hz.2.1, by have := hz.2.2; omega⟩, fin.sh s (.int _)⟩
  · cases hf
theorem ok_neg {Z : Rw} : Ok1 Z (rU fun i => .int (-i)) negT := by
  intro Sh F ms σ H env x ta A t Q s ra hf fin
  cases ta <;> simp only [negT] at hf <;> try (cases hf; done)
  cases hf
  cases ra.intI
  exact ⟨_, rfl, fin.sh s (.int _)⟩

/-! ### comparisons -/
mutual
def pd : T → PyData
  | .bl b => .bool b
  | .int i => .int i
  | .str s => .str (sOf s)
  | .tup l => .tuple (pds l)
  | .lst _ l => .list (pds l)
  | _ => .none
def pds : List T → List PyData
  | [] => []
  | a :: r => pd a :: pds r
end
theorem pds_length : ∀ l : List T, (pds l).length = l.length
  | [] => rfl
  | a :: r => by show (pds r).length + 1 = _; rw [pds_length r]; rfl
section
variable {Z : Rw} {Sh H : Hp} {F : List Addr} {ms : List (Nat × V)} {σ : L2.St} {env : Env}
theorem Rp.ofRep {v : V} {t : T} {A : List Addr} (r : Rep Z Sh H v t A) (h : own t = false) : Rp Z Sh v t := (r.shared h).1
mutual
theorem dp_of (s : SR Z Sh F ms σ H env) : ∀ (n : Nat) (t : T) (v : V), dat n t = true → Rp Z Sh v t → Dp Z.K H v (pd t)
  | _, .und, v, h, r => by simp [dat] at h
  | _, .dic _ _, v, h, r => by simp [dat] at h
  | 0, .tup l, v, h, r => by simp [dat] at h
  | 0, .lst _ l, v, h, r => by simp [dat] at h
  | n + 1, .tup l, v, h, r => by
    cases r with
    | tup hq hl hs => exact .tup (s.sqT hq) (dps_of s n l _ (by simpa [dat] using h) ⟨hl, hs⟩)
  | n + 1, .lst _ l, v, h, r => by
    cases r with
    | lst hq hl hs => exact .lst (s.sqL hq) (dps_of s n l _ (by simpa [dat] using h) ⟨hl, hs⟩)
  | _, .non, v, h, r => by cases r; exact .non
  | _, .bl b, v, h, r => by cases r; exact .bl b
  | _, .int i, v, h, r => by cases r; exact .int i
  | _, .str x, v, h, r => by cases r; exact .str _
theorem dps_of (s : SR Z Sh F ms σ H env) : ∀ (n : Nat) (l : List T) (vs : List V), dats n l = true → RpL Z Sh vs l → DpAll Z.K H vs (pds l)
  | n, [], vs, h, r => by
    rw [r.inv_nil]
    exact .nil
  | n, a :: l, vs, h, r => by
    obtain ⟨v, vr, rfl, r1, r2⟩ := r.inv_cons
    have h' : dat n a = true ∧ dats n l = true := by simpa [dats] using h
    exact .cons (dp_of s n a v h'.1 r1) (dps_of s n l vr h'.2 r2)
end
theorem dpO_of (s : SR Z Sh F ms σ H env) {n : Nat} {t : T} {v : V} {A : List Addr} (h : dat (n + 1) t = true) (r : Rep Z Sh H v t A) : Dp Z.K H v (pd t) := by
  cases r with
  | sh h' => exact dp_of s _ t v h h'
  | lst q hn hs => exact .lst (.inl (.inl q)) (dps_of s n _ _ (by simpa [dat] using h) hs)
  | dic0 _ _ _ _ => simp [dat] at h
  | dic1 _ _ _ _ _ _ => simp [dat] at h
end
section
variable {Z : Rw} {Sh : Hp}
mutual
theorem lay_of : ∀ (n : Nat) (t : T) (v : V), dat n t = true → Rp Z Sh v t → (pd t).canLay0 = true ∧ (pd t).depth ≤ n
  | _, .und, v, h, r => by simp [dat] at h
  | _, .dic _ _, v, h, r => by simp [dat] at h
  | 0, .tup l, v, h, r => by simp [dat] at h
  | 0, .lst _ l, v, h, r => by simp [dat] at h
  | n + 1, .tup l, v, h, r => by
    cases r with
    | tup hq hl hs =>
      obtain ⟨h1, h2⟩ := lays_of n l _ (by simpa [dat] using h) ⟨hl, hs⟩
      exact ⟨by simp [pd, PyData.canLay0, h1], by simp [pd, PyData.depth]; omega⟩
  | n + 1, .lst _ l, v, h, r => by
    cases r with
    | lst hq hl hs =>
      obtain ⟨h1, h2⟩ := lays_of n l _ (by simpa [dat] using h) ⟨hl, hs⟩
      exact ⟨by simp [pd, PyData.canLay0, h1], by simp [pd, PyData.depth]; omega⟩
  | _, .non, v, h, r => by simp [pd, PyData.canLay0, PyData.depth]
  | _, .bl b, v, h, r => by simp [pd, PyData.canLay0, PyData.depth]
  | _, .int i, v, h, r => by simp [pd, PyData.canLay0, PyData.depth]
  | _, .str x, v, h, r => by
    cases r with
    | str _ o =>
      refine ⟨?_, by simp [pd, PyData.depth]⟩
      simp only [pd, PyData.canLay0]
      unfold PyData.strOk
      rw [← Array.all_toList, sOf_cps]
      exact List.all_eq_true.mpr fun c hc => decide_eq_true (o.2 c hc)
theorem lays_of : ∀ (n : Nat) (l : List T) (vs : List V), dats n l = true → RpL Z Sh vs l → PyData.canLayAll0 (pds l) = true ∧ PyData.depthAll (pds l) ≤ n
  | n, [], vs, h, r => by simp [pds, PyData.canLayAll0, PyData.depthAll]
  | n, a :: l, vs, h, r => by
    obtain ⟨v, vr, rfl, r1, r2⟩ := r.inv_cons
    have h' : dat n a = true ∧ dats n l = true := by simpa [dats] using h
    obtain ⟨h1, h2⟩ := lay_of n a v h'.1 r1
    obtain ⟨h3, h4⟩ := lays_of n l vr h'.2 r2
    exact ⟨by simp [pds, PyData.canLayAll0, h1, h3], by simp [pds, PyData.depthAll]; omega⟩
end
theorem layO_of {H : Hp} {n : Nat} {t : T} {v : V} {A : List Addr} (h : dat (n + 1) t = true) (r : Rep Z Sh H v t A) : (pd t).canLay0 = true ∧ (pd t).depth ≤ n + 1 := by
  cases r with
  | sh h' => exact lay_of _ t v h h'
  | lst q hn hs =>
    obtain ⟨h1, h2⟩ := lays_of n _ _ (by simpa [dat] using h) hs
    exact ⟨by simp [pd, PyData.canLay0, h1], by simp [pd, PyData.depth]; omega⟩
  | dic0 _ _ _ _ => simp [dat] at h
  | dic1 _ _ _ _ _ _ => simp [dat] at h
theorem shaped_of {H : Hp} {n : Nat} {t : T} {v : V} {A : List Addr} (h : dat (n + 1) t = true) (r : Rep Z Sh H v t A) (hn : n + 1 ≤ 64) : SeqAt.shaped (pd t) = true := by
  obtain ⟨h1, h2⟩ := layO_of h r
  unfold SeqAt.shaped
  rw [h1, decide_eq_true (by omega)]
  rfl
end
theorem sOf_beq (a b : List Nat) : (sOf a == sOf b) = (a == b) := by
  rw [Bool.eq_iff_iff]
  simp only [beq_iff_eq]
  exact ⟨sOf_inj, fun e => by rw [e]⟩
mutual
theorem eqv_pd : ∀ (n m : Nat) (t u : T), dat n t = true → dat m u = true → PyData.eqv (pd t) (pd u) = eqb t u
  | n + 1, m + 1, .tup l, .tup k, h, q => by
    simp only [pd, PyData.eqv, eqb]
    exact eqvs_pd n m l k (by simpa [dat] using h) (by simpa [dat] using q)
  | n + 1, m + 1, .lst _ l, .lst _ k, h, q => by
    simp only [pd, PyData.eqv, eqb]
    exact eqvs_pd n m l k (by simpa [dat] using h) (by simpa [dat] using q)
  | 0, _, .tup l, _, h, q => by simp [dat] at h
  | 0, _, .lst _ l, _, h, q => by simp [dat] at h
  | _, 0, _, .tup l, h, q => by simp [dat] at q
  | _, 0, _, .lst _ l, h, q => by simp [dat] at q
  | _, _, .und, u, h, q => by simp [dat] at h
  | _, _, .dic _ _, u, h, q => by simp [dat] at h
  | _, _, t, .und, h, q => by simp [dat] at q
  | _, _, t, .dic _ _, h, q => by simp [dat] at q
  | _, _, .non, .non, h, q | _, _, .non, .bl _, h, q | _, _, .non, .int _, h, q | _, _, .non, .str _, h, q | _, _, .non, .tup _, h, q | _, _, .non, .lst _ _, h, q => by simp [pd, PyData.eqv, eqb]
  | _, _, .bl _, .non, h, q | _, _, .bl _, .bl _, h, q | _, _, .bl _, .int _, h, q | _, _, .bl _, .str _, h, q | _, _, .bl _, .tup _, h, q | _, _, .bl _, .lst _ _, h, q => by simp [pd, PyData.eqv, eqb]
  | _, _, .int _, .non, h, q | _, _, .int _, .bl _, h, q | _, _, .int _, .int _, h, q | _, _, .int _, .str _, h, q | _, _, .int _, .tup _, h, q | _, _, .int _, .lst _ _, h, q => by simp [pd, PyData.eqv, eqb]
  | _, _, .str _, .non, h, q | _, _, .str _, .bl _, h, q | _, _, .str _, .int _, h, q | _, _, .str _, .tup _, h, q | _, _, .str _, .lst _ _, h, q => by simp [pd, PyData.eqv, eqb]
  | _, _, .str a, .str b, h, q => by simp only [pd, PyData.eqv, eqb]; exact sOf_beq a b
  | _, _, .tup _, .non, h, q | _, _, .tup _, .bl _, h, q | _, _, .tup _, .int _, h, q | _, _, .tup _, .str _, h, q | _, _, .tup _, .lst _ _, h, q => by simp [pd, PyData.eqv, eqb]
  | _, _, .lst _ _, .non, h, q | _, _, .lst _ _, .bl _, h, q | _, _, .lst _ _, .int _, h, q | _, _, .lst _ _, .str _, h, q | _, _, .lst _ _, .tup _, h, q => by simp [pd, PyData.eqv, eqb]
theorem eqvs_pd : ∀ (n m : Nat) (l k : List T), dats n l = true → dats m k = true → PyData.eqvAll (pds l) (pds k) = eqbs l k
  | _, _, [], [], _, _ => by simp [pds, PyData.eqvAll, eqbs]
  | _, _, [], _ :: _, _, _ => by simp [pds, PyData.eqvAll, eqbs]
  | _, _, _ :: _, [], _, _ => by simp [pds, PyData.eqvAll, eqbs]
  | n, m, a :: l, b :: k, h, q => by
    have h' : dat n a = true ∧ dats n l = true := by simpa [dats] using h
    have q' : dat m b = true ∧ dats m k = true := by simpa [dats] using q
    simp only [pds, PyData.eqvAll, eqbs]
    rw [eqv_pd n m a b h'.1 q'.1, eqvs_pd n m l k h'.2 q'.2]
end
theorem cmpT_eq (a b : T) : cmpT .eq a b = if (dat 64 a && dat 64 b) = true then some (eqb a b) else none := by cases a <;> cases b <;> rfl
theorem cmpT_ne (a b : T) : cmpT .ne a b = if (dat 64 a && dat 64 b) = true then some (!eqb a b) else none := by cases a <;> cases b <;> rfl
theorem ok_eq {Z : Rw} : Ok2 Z (rEqD Z.K) (fun x y => (cmpT .eq x y).map .bl) := by
  intro Sh F ms σ H env x y ta tb A B t Q s ra rb hf fin
  dsimp only at hf
  rw [cmpT_eq] at hf
  split at hf
  · rename_i c
    cases hf
    obtain ⟨c1, c2⟩ := Bool.and_eq_true_iff.mp c
    refine ⟨_, _, dpO_of s c1 ra, dpO_of s c2 rb, shaped_of c1 ra (by omega), shaped_of c2 rb (by omega), ?_⟩
    rw [eqv_pd 64 64 ta tb c1 c2]
    exact fin.sh s (.bl _)
  · cases hf
theorem ok_ne {Z : Rw} : Ok2 Z (rNeD Z.K) (fun x y => (cmpT .ne x y).map .bl) := by
  intro Sh F ms σ H env x y ta tb A B t Q s ra rb hf fin
  dsimp only at hf
  rw [cmpT_ne] at hf
  split at hf
  · rename_i c
    cases hf
    obtain ⟨c1, c2⟩ := Bool.and_eq_true_iff.mp c
    refine ⟨_, _, dpO_of s c1 ra, dpO_of s c2 rb, shaped_of c1 ra (by omega), shaped_of c2 rb (by omega), ?_⟩
    rw [eqv_pd 64 64 ta tb c1 c2]
    exact fin.sh s (.bl _)
  · cases hf
/-- < and its like: ints, texts -/
def rCmpS (g : List Nat → List Nat → Bool) : R2 := fun x y H Q => ∃ i j : Str, x = .str i ∧ y = .str j ∧ Q (.bl (g i.cps.toList j.cps.toList)) H
def rOrd (f : Int → Int → Bool) (g : List Nat → List Nat → Bool) : R2 := fun x y H Q => rI0 (fun i j => .bl (f i j)) x y H Q ∨ rCmpS g x y H Q
theorem op_ltA {X : Cx} : OpR X (compareOp .Lt) (rOrd (fun i j => decide (i < j)) fun a b => decide (a < b)) := OpR.or op_lt op_lt_str
theorem op_gtA {X : Cx} : OpR X (compareOp .Gt) (rOrd (fun i j => decide (j < i)) fun a b => decide (b < a)) := OpR.or op_gt op_gt_str
theorem op_leA {X : Cx} : OpR X (compareOp .LtE) (rOrd (fun i j => decide (i ≤ j)) fun a b => !decide (b < a)) := OpR.or op_le op_le_str
theorem op_geA {X : Cx} : OpR X (compareOp .GtE) (rOrd (fun i j => decide (j ≤ i)) fun a b => !decide (a < b)) := OpR.or op_ge op_ge_str
theorem ok_ord {Z : Rw} {op : Cop} {f : Int → Int → Bool} {g : List Nat → List Nat → Bool} (h : ∀ a b t, (cmpT op a b).map T.bl = some t → (∃ i j, a = .int i ∧ b = .int j ∧ t = .bl (f i j)) ∨ ∃ i j, a = .str i ∧ b = .str j ∧ t = .bl (g i j)) :
    Ok2 Z (rOrd f g) (fun x y => (cmpT op x y).map .bl) := by
  intro Sh F ms σ H env x y ta tb A B t Q s ra rb hf fin
  rcases h ta tb t hf with ⟨i, j, rfl, rfl, rfl⟩ | ⟨i, j, rfl, rfl, rfl⟩
  · cases ra.intI; cases rb.intI
    exact .inl ⟨_, _, rfl, rfl, fin.sh s (.bl _)⟩
  · obtain ⟨rfl, _⟩ := ra.strI
    obtain ⟨rfl, _⟩ := rb.strI
    refine .inr ⟨_, _, rfl, rfl, ?_⟩
    rw [sOf_cps, sOf_cps]
    exact fin.sh s (.bl _)
theorem ok_lt {Z : Rw} : Ok2 Z (rOrd (fun i j => decide (i < j)) fun a b => decide (a < b)) (fun x y => (cmpT .lt x y).map .bl) := ok_ord fun a b t h => by cases a <;> cases b <;> simp_all [cmpT]
theorem ok_gt {Z : Rw} : Ok2 Z (rOrd (fun i j => decide (j < i)) fun a b => decide (b < a)) (fun x y => (cmpT .gt x y).map .bl) := ok_ord fun a b t h => by cases a <;> cases b <;> simp_all [cmpT]
theorem ok_le {Z : Rw} : Ok2 Z (rOrd (fun i j => decide (i ≤ j)) fun a b => !decide (b < a)) (fun x y => (cmpT .le x y).map .bl) := ok_ord fun a b t h => by cases a <;> cases b <;> simp_all [cmpT]
theorem ok_ge {Z : Rw} : Ok2 Z (rOrd (fun i j => decide (j ≤ i)) fun a b => !decide (a < b)) (fun x y => (cmpT .ge x y).map .bl) := ok_ord fun a b t h => by cases a <;> cases b <;> simp_all [cmpT]
/-- is None, and not -/
theorem isN_of {Z : Rw} {Sh H : Hp} {v : V} {t : T} {A : List Addr} (r : Rep Z Sh H v t A) (h : t ≠ .und) : decide (v = .non) = isNonT t := by
  cases r with
  | sh h' => cases h' <;> first | exact absurd rfl h | (simp [isNonT]; done) | rfl
  | _ => simp [isNonT]
end Vi

set_option autoImplicit false
set_option Elab.async false
set_option linter.all false
set_option maxRecDepth 100000
/-! VI: expressions, the plain nodes. -/
namespace Vi
open PySem PySem.Spec PyProof.Rows L2

abbrev zx (X : Cx) : Rw := ⟨X.prog, X.w, X.K⟩
section
variable {X : Cx} {c : Cfg} {xp : Xp (zx X)} {e : E} {a b d : Expr} {pos : Pos} {m ma mb : M T}
/-- an expression is as its meaning -/
structure SE (X : Cx) (c : Cfg) (xp : Xp (zx X)) (e : E) (a : Expr) : Prop where
  s : isRd e = none → PE X a (rS (zx X) xp (ev c e))
  o : PE X a (rO (zx X) xp (opd (isRd e) (ev c e)))
  t : PT X a (rT (zx X) xp (testM (isRd e) (ev c e)))
theorem truV_of {Z : Rw} {Sh H : Hp} {F : List Addr} {ms : List (Nat × V)} {σ : L2.St} {env : Env} {v : V} {t : T} {A : List Addr} {k : Bool} (s : SR Z Sh F ms σ H env) (r : Rep Z Sh H v t A) (h : tru t = some k) : TruV Z.K v H k := by
  cases t with
  | non => cases r.nonI; cases h; rfl
  | und => cases h
  | bl b => cases r.blI; cases h; rfl
  | int i => cases r.intI; cases h; rfl
  | str x =>
    obtain ⟨rfl, o⟩ := r.strI
    cases h
    have hl := line_eq
    refine ⟨by rw [sOf_length]; have := o.1; omega, ?_⟩
    rw [sOf_length]
    cases x <;> simp <;> omega
  | tup l =>
    obtain ⟨a, vs, rfl, q, r2, _⟩ := r.tupI s
    cases h
    refine .inr (.inl ⟨vs, q, ?_⟩)
    have := r2.1
    cases vs <;> cases l <;> simp_all
  | lst o l =>
    obtain ⟨a, vs, rfl, q, r2⟩ := r.lstI s
    cases h
    refine .inl ⟨vs, q, ?_⟩
    have := r2.1
    cases vs <;> cases l <;> simp_all
  | dic o l => cases h
/-- the test of an operand -/
theorem test_imp {Z : Rw} {xp : Xp Z} {r : Option Nat} {m : M T} : ∀ σ H Q, rT Z xp (testM r m) σ H Q → rO Z xp (opd r m) σ H (fun x H' => ∃ k, TruV Z.K x H' k ∧ Q k H') := fun σ H Q ⟨Sh, F, ms, env, sr, out⟩ => by
  refine ⟨Sh, F, ms, env, sr, ?_⟩
  have out : Out ((opd r m env).bind fun o e => match o.get e with | some t => need (tru t) e | none => .no) _ _ := out
  refine out.bind.imp (fun o e1 h v H' Sh' A s1 r1 a1 => ?_) fun _ _ _ x => x
  cases g : o.get e1 with
  | none => rw [g] at h; exact h.elim
  | some t =>
    rw [g] at h
    obtain ⟨k, hk, hq⟩ := out_need h
    obtain ⟨A', w⟩ := r1.fin s1.less g
    exact ⟨k, truV_of s1.less w hk, hq H' Sh' s1.less a1⟩
theorem SE.plain (hr : isRd e = none) (h : PE X a (rS (zx X) xp (ev c e))) (he : ∀ whole, isTrue a X.env whole = (do let v ← whole; standAt a.pos; holding [v] (truthy v))) : SE X c xp e a :=
  ⟨fun _ => h, by rw [hr]; exact rO_strong h, by rw [hr]; exact ptI (pt_truth (rO_strong h) he) test_imp⟩
theorem SE.test (hr : isRd e = none) (h : PE X a (rS (zx X) xp (ev c e))) (t : PT X a (rT (zx X) xp (testM none (ev c e)))) : SE X c xp e a :=
  ⟨fun _ => h, by rw [hr]; exact rO_strong h, by rw [hr]; exact t⟩

/-! ### constants -/
theorem se_cst {t : T} {v : V} (h : PE X a (tC v)) (r : ∀ Sh, Rp (zx X) Sh v t) (he : ∀ whole, isTrue a X.env whole = (do let v ← whole; standAt a.pos; holding [v] (truthy v))) : SE X c xp (.cst t) a :=
  .plain rfl (peI h fun σ H Q ⟨Sh, F, ms, env, sr, out⟩ => (show Q v H from (show Out (R.ok t env) _ _ from out) v H Sh [] sr (.sh (r Sh)) Aft.refl)) he
theorem se_glo {g : Nat} {t : T} {v : V} (hg : c.glos[g]? = some t) (h : PE X a (tC v)) (r : ∀ Sh, Rp (zx X) Sh v t) (he : ∀ whole, isTrue a X.env whole = (do let v ← whole; standAt a.pos; holding [v] (truthy v))) : SE X c xp (.glo g) a :=
  .plain rfl (peI h fun σ H Q ⟨Sh, F, ms, env, sr, out⟩ => by
    have out : Out (need (c.glos[g]?) env) _ _ := out
    rw [hg] at out
    exact (show Out (R.ok t env) _ _ from out) v H Sh [] sr (.sh (r Sh)) Aft.refl) he

/-! ### two operands -/
theorem se_bin {op : Bop} {o : Operator} {ea eb : E} {r : R2} (ho : OpR X (binaryOp o) r) (ok : Ok2 (zx X) r (binT op)) (ha : SE X c xp ea a) (hb : SE X c xp eb b) : SE X c xp (.bin op ea eb) (.BinOp a o b pos) :=
  .plain rfl (peI (pe_op ho ha.o hb.o) (bin_imp ok)) (fun _ => rfl)
theorem nomarks (b : Expr) (op : CmpOp) (h : ∀ es k p, b ≠ .Set es k p) : behindInMarks op b = false := by
  cases b <;> first | rfl | exact absurd rfl (h _ _ _)
theorem out_test {m : M T} {env : Env} {P : Bool → Env → Prop} {Y : Nat → T → Env → Prop} (h : Out (testM none m env) P Y) : Out (m env) (fun t e => ∃ k, tru t = some k ∧ P k e) Y := by
  have h : Out ((opd none m env).bind fun o e => match o.get e with | some t => need (tru t) e | none => .no) P Y := h
  have h2 : Out ((m env).bind fun t e => R.ok (O.v t) e) _ _ := h.bind
  refine h2.bind.imp (fun t e q => ?_) fun _ _ _ x => x
  have q : Out (need (tru t) e) P Y := q
  obtain ⟨k, h1, h2⟩ := out_need q
  exact ⟨k, h1, h2⟩
/-- its values are True and False -/
def BoolM (m : M T) : Prop := ∀ env t e, m env = .ok t e → ∃ b, t = .bl b
theorem rT_bool {Z : Rw} {xp : Xp Z} {m : M T} (hb : BoolM m) : ∀ σ H Q, rT Z xp (testM none m) σ H Q → tTest (rS Z xp m) σ H Q := fun σ H Q ⟨Sh, F, ms, env, sr, out⟩ => by
  refine ⟨Sh, F, ms, env, sr, ?_⟩
  have o2 := out_test out
  cases q : m env with
  | no => rw [q] at o2; exact o2
  | ex k d e => rw [q] at o2; exact o2
  | ok t e =>
    rw [q] at o2
    obtain ⟨b, rfl⟩ := hb env t e q
    obtain ⟨k, hk, hq⟩ := (show ∃ k, tru (.bl b) = some k ∧ _ from o2)
    cases hk
    intro v H' Sh' A s1 r1 a1
    exact ⟨b, r1.blI, hq H' Sh' s1.less a1⟩
theorem bind_ok {α β : Type} {r : R α} {f : α → Env → R β} {b : β} {e : Env} (h : r.bind f = .ok b e) : ∃ a e1, r = .ok a e1 ∧ f a e1 = .ok b e := by
  cases r with
  | no => cases h
  | ex k d e => cases h
  | ok a e1 => exact ⟨a, e1, rfl, h⟩
theorem fin2_ok {o p : O} {f : T → T → Option T} {env e : Env} {t : T} (h : fin2 o p f env = .ok t e) : ∃ a b, f a b = some t := by
  unfold fin2 at h
  split at h
  · rename_i a b _ _
    unfold need at h
    split at h
    · rename_i x hx
      cases h
      exact ⟨a, b, hx⟩
    · cases h
  · cases h
theorem fin1_ok {o : O} {f : T → Option T} {env e : Env} {t : T} (h : fin1 o f env = .ok t e) : ∃ a, f a = some t := by
  unfold fin1 at h
  split at h
  · rename_i a _
    unfold need at h
    split at h
    · rename_i x hx
      cases h
      exact ⟨a, hx⟩
    · cases h
  · cases h
theorem boolM_bin {na nb : M O} {f : T → T → Option Bool} : BoolM (mBin na nb fun x y => (f x y).map .bl) := fun env t e h => by
  unfold mBin at h
  obtain ⟨o, e1, _, h⟩ := bind_ok h
  obtain ⟨p, e2, _, h⟩ := bind_ok h
  obtain ⟨x, y, h⟩ := fin2_ok h
  obtain ⟨k, _, rfl⟩ := Option.map_eq_some_iff.mp h
  exact ⟨k, rfl⟩
theorem boolM_un {na : M O} {f : T → Option T} (hf : ∀ x t, f x = some t → ∃ b, t = .bl b) : BoolM (mUn na f) := fun env t e h => by
  unfold mUn at h
  obtain ⟨o, e1, _, h⟩ := bind_ok h
  obtain ⟨x, h⟩ := fin1_ok h
  exact hf x t h
/-- a comparison -/
theorem se_cmp {op : Cop} {o : CmpOp} {ea eb : E} {r : R2} (ho : OpR X (compareOp o) r) (ok : Ok2 (zx X) r (fun x y => (cmpT op x y).map .bl)) (ha : SE X c xp ea a) (hb : SE X c xp eb b) (hm : behindInMarks o b = false) :
    SE X c xp (.cmp op ea eb) (.Compare a [o] [b] pos) :=
  .test rfl (peI (pe_cmpR ho ha.o hb.o hm) (bin_imp ok)) (ptI (pt_cmpR ho ha.o hb.o hm) fun σ H Q h => bin_imp ok σ H _ (rT_bool (m := mBin (opd (isRd ea) (ev c ea)) (opd (isRd eb) (ev c eb)) fun x y => (cmpT op x y).map .bl) boolM_bin σ H Q h))
/-- one operand -/
theorem se_neg {ea : E} (ha : SE X c xp ea a) : SE X c xp (.neg ea) (.UnaryOp .USub a pos) := .plain rfl (peI (pe_un un_neg ha.o) (un_imp ok_neg)) (fun _ => rfl)
/-! ### is None -/
theorem isNf_some {k : Bool} {t u : T} (h : isNf k t = some u) : t ≠ .und ∧ u = .bl (isNonT t == k) := by
  unfold isNf at h
  split at h
  · cases h
  · rename_i h1
    cases h
    exact ⟨h1, rfl⟩
theorem isN_imp {Z : Rw} {xp : Xp Z} {na : M O} (k : Bool) : ∀ σ H Q, rS Z xp (mUn na (isNf k)) σ H Q → (fun σ H Q => rO Z xp na σ H fun x H1 => Q (.bl (if k then decide (x = .non) else !decide (x = .non))) H1) σ H Q := fun σ H Q ⟨Sh, F, ms, env, sr, out⟩ => by
  refine ⟨Sh, F, ms, env, sr, out.bind.imp (fun o e1 h1 v1 H1 Sh1 A s1 r1 a1 => ?_) fun _ _ _ x => x⟩
  obtain ⟨ta, t, g1, hf, fin⟩ := out_fin1 h1
  obtain ⟨A', w⟩ := r1.fin s1.less g1
  obtain ⟨n, rfl⟩ := isNf_some hf
  have e := isN_of w n
  rw [e]
  refine fin _ H1 Sh1 [] s1.less (.sh ?_) a1
  have e2 : (if k = true then isNonT ta else !isNonT ta) = (isNonT ta == k) := by cases k <;> cases isNonT ta <;> rfl
  rw [e2]
  exact .bl _
theorem boolM_isN {na : M O} {k : Bool} : BoolM (mUn na (isNf k)) := boolM_un fun x t h => ⟨_, (isNf_some h).2⟩
theorem se_isN {ea : E} {j : Nat} {pos' : Pos} (ha : SE X c xp ea a) : SE X c xp (.isN ea) (.Compare a [.Is] [.Constant .none j pos'] pos) := by
  have h := peI (pe_cmp (pos := pos) (pc_isN (j := j) (pos' := pos') ha.o)) (fun σ H Q q => isN_imp true σ H Q q)
  have t := ptI (pt_cmp (pos := pos) (pc_isN (j := j) (pos' := pos') ha.o)) (fun σ H Q q => isN_imp true σ H _ (rT_bool (m := mUn (opd (isRd ea) (ev c ea)) (isNf true)) boolM_isN σ H Q q))
  exact .test rfl h t
theorem se_notN {ea : E} {j : Nat} {pos' : Pos} (ha : SE X c xp ea a) : SE X c xp (.notN ea) (.Compare a [.IsNot] [.Constant .none j pos'] pos) := by
  have h := peI (pe_cmp (pos := pos) (pc_notN (j := j) (pos' := pos') ha.o)) (fun σ H Q q => isN_imp false σ H Q q)
  have t := ptI (pt_cmp (pos := pos) (pc_notN (j := j) (pos' := pos') ha.o)) (fun σ H Q q => isN_imp false σ H _ (rT_bool (m := mUn (opd (isRd ea) (ev c ea)) (isNf false)) boolM_isN σ H Q q))
  exact .test rfl h t
end
end Vi

set_option autoImplicit false
set_option Elab.async false
set_option linter.all false
set_option maxRecDepth 100000
/-! VI: chains, and, or, not, if-else. -/
namespace Vi
open PySem PySem.Spec PyProof.Rows L2
section
variable {X : Cx} {c : Cfg} {xp : Xp (zx X)} {e : E} {a b d : Expr} {pos : Pos} {m ma mb : M T}
def mChn (na nb nd : M O) (f g : T → T → Option Bool) : M T := fun e => (na e).bind fun o e => (nb e).bind fun p e => (fin2 o p (fun x y => (f x y).map .bl) e).bind fun t e => match t with
    | .bl true => (nd e).bind fun q e => fin2 p q (fun x y => (g x y).map .bl) e
    | .bl false => .ok (.bl false) e
    | _ => .no
theorem out_fin2b {o p : O} {f : T → T → Option T} {env : Env} {α : Type} {P : α → Env → Prop} {Y : Nat → T → Env → Prop} {k : T → Env → R α} (h : Out ((fin2 o p f env).bind k) P Y) : ∃ a b t, o.get env = some a ∧ p.get env = some b ∧ f a b = some t ∧ Out (k t env) P Y := by
  obtain ⟨x, y, t, h1, h2, h3, h4⟩ := out_fin2 h.bind
  exact ⟨x, y, t, h1, h2, h3, h4⟩
theorem chn_imp {Z : Rw} {xp : Xp Z} {na nb nd : M O} {r r' : R2} {f g : T → T → Option Bool} (ok1 : Ok2 Z r (fun x y => (f x y).map .bl)) (ok2 : Ok2 Z r' (fun x y => (g x y).map .bl)) :
    ∀ σ H Q, rS Z xp (mChn na nb nd f g) σ H Q → tChain r r' (rO Z xp na) (rO Z xp nb) (rO Z xp nd) σ H Q := fun σ H Q ⟨Sh, F, ms, env, sr, out⟩ => by
  refine ⟨Sh, F, ms, env, sr, out.bind.imp (fun o e1 h1 v1 H1 Sh1 A s1 r1 a1 => ?_) fun _ _ _ x => x⟩
  refine ⟨Sh1, A ++ F, ms, e1, s1, h1.bind.imp (fun p e2 h2 v2 H2 Sh2 B s2 r2 a2 => ?_) fun _ _ _ x => xp.mono A a1 x⟩
  obtain ⟨ta, tb, t, g1, g2, hf, h3⟩ := out_fin2b h2
  have q1 := r1.stay a2 (fun x hx => List.mem_append_left _ hx) (fun x hx => (s2.less.fr.2 x hx).1)
  obtain ⟨A', w1⟩ := q1.fin s2 g1
  obtain ⟨B', w2⟩ := r2.fin s2 g2
  refine ok1 Sh2 (B ++ (A ++ F)) ms σ H2 e2 v1 v2 ta tb A' B' t _ s2 w1 w2 hf fun v H3 Sh3 C s3 r3 a3 => ?_
  obtain ⟨k, _, rfl⟩ := Option.map_eq_some_iff.mp hf
  obtain ⟨r3', rfl⟩ := r3.shared rfl
  cases r3'
  refine ⟨k, rfl, ?_⟩
  have s3' : SR Z Sh3 (B ++ (A ++ F)) ms σ H3 e2 := s3
  have a13 : Aft Sh F H Sh3 H3 := (a1.trans (a2.less fun x hx => List.mem_append_right _ hx)).trans (a3.less fun x hx => List.mem_append_right _ (List.mem_append_right _ hx))
  have q2 := r2.stay a3 (fun x hx => List.mem_append_left _ hx) (fun x hx => (s3'.fr.2 x hx).1)
  cases k with
  | false =>
    rw [if_neg Bool.false_ne_true]
    exact (show ∀ v H' Sh' A, _ from h3) _ H3 Sh3 [] s3'.less.less (.sh (.bl _)) a13
  | true =>
    rw [if_pos rfl]
    have h3 := (show Out ((nd e2).bind _) _ _ from h3).bind
    refine ⟨Sh3, B ++ (A ++ F), ms, e2, s3', h3.imp (fun q e4 h4 v4 H4 Sh4 D s4 r4 a4 => ?_) fun _ _ _ x => by
      have := xp.mono (B ++ A) a13 x
      rwa [List.append_assoc] at this⟩
    obtain ⟨tb', td, t', g3, g4, hg, fin⟩ := out_fin2 h4
    have q3 := q2.stay a4 (fun x hx => List.mem_append_left _ hx) (fun x hx => (s4.less.fr.2 x hx).1)
    have s4' : SR Z Sh4 F ms σ H4 e4 := s4.less.less.less
    obtain ⟨B2, w3⟩ := q3.fin s4' g3
    obtain ⟨D2, w4⟩ := r4.fin s4' g4
    exact ok2 Sh4 F ms σ H4 e4 v2 v4 tb' td B2 D2 t' Q s4' w3 w4 hg fun v H' Sh' E s5 r5 a5 => fin v H' Sh' E s5 r5 ((a13.trans (a4.less fun x hx => List.mem_append_right _ (List.mem_append_right _ hx))).trans a5)
theorem boolM_chn {na nb nd : M O} {f g : T → T → Option Bool} : BoolM (mChn na nb nd f g) := fun env t e h => by
  unfold mChn at h
  obtain ⟨o, e1, _, h⟩ := bind_ok h
  obtain ⟨p, e2, _, h⟩ := bind_ok h
  obtain ⟨u, e3, _, h⟩ := bind_ok h
  split at h
  · obtain ⟨q, e4, _, h⟩ := bind_ok h
    obtain ⟨x, y, h⟩ := fin2_ok h
    obtain ⟨k, _, rfl⟩ := Option.map_eq_some_iff.mp h
    exact ⟨k, rfl⟩
  · cases h; exact ⟨_, rfl⟩
  · cases h
theorem se_chn {o1 o2 : Cop} {p1 p2 : CmpOp} {ea eb ed : E} {r r' : R2} (h1 : OpR X (compareOp p1) r) (h2 : OpR X (compareOp p2) r') (ok1 : Ok2 (zx X) r (fun x y => (cmpT o1 x y).map .bl)) (ok2 : Ok2 (zx X) r' (fun x y => (cmpT o2 x y).map .bl))
    (ha : SE X c xp ea a) (hb : SE X c xp eb b) (hd : SE X c xp ed d) (hm : behindInMarks p2 d = false) : SE X c xp (.chn o1 o2 ea eb ed) (.Compare a [p1, p2] [b, d] pos) := by
  have hm' : lastMarks [p1, p2] [b, d] = false := hm
  exact .test rfl (peI (pe_chain h1 h2 ha.o hb.o hd.o hm') (chn_imp ok1 ok2)) (ptI (pt_chain h1 h2 ha.o hb.o hd.o hm') fun σ H Q h => chn_imp ok1 ok2 σ H _ (rT_bool (m := mChn (opd (isRd ea) (ev c ea)) (opd (isRd eb) (ev c eb)) (opd (isRd ed) (ev c ed)) (cmpT o1) (cmpT o2)) boolM_chn σ H Q h))

/-! ### not -/
def notF (t : T) : Option T := (tru t).map fun b => .bl (!b)
theorem not_imp {Z : Rw} {xp : Xp Z} {na : M O} : ∀ σ H Q, rS Z xp (mUn na notF) σ H Q → tNotT Z.K (rO Z xp na) σ H Q := fun σ H Q ⟨Sh, F, ms, env, sr, out⟩ => by
  refine ⟨Sh, F, ms, env, sr, out.bind.imp (fun o e1 h1 v1 H1 Sh1 A s1 r1 a1 => ?_) fun _ _ _ x => x⟩
  obtain ⟨ta, t, g1, hf, fin⟩ := out_fin1 h1
  obtain ⟨A', w⟩ := r1.fin s1.less g1
  obtain ⟨k, hk, rfl⟩ := Option.map_eq_some_iff.mp hf
  exact ⟨k, truV_of s1.less w hk, fin _ H1 Sh1 [] s1.less (.sh (.bl _)) a1⟩
theorem not_testimp {Z : Rw} {xp : Xp Z} {r : Option Nat} {m : M T} : ∀ σ H Q, rT Z xp (testM none (mUn (opd r m) notF)) σ H Q → tNot (rT Z xp (testM r m)) σ H Q := fun σ H Q ⟨Sh, F, ms, env, sr, out⟩ => by
  refine ⟨Sh, F, ms, env, sr, ?_⟩
  have o2 := (show Out ((opd r m env).bind fun o e => fin1 o notF e) _ _ from out_test out).bind
  show Out ((opd r m env).bind fun o e => match o.get e with | some t => need (tru t) e | none => .no) _ _
  cases q : opd r m env with
  | no => rw [q] at o2; exact o2
  | ex k d e => rw [q] at o2; exact o2
  | ok o e1 =>
    rw [q] at o2
    obtain ⟨ta, t, g1, hf, k, hk, hq⟩ := out_fin1 (show Out (fin1 o notF e1) _ _ from o2)
    obtain ⟨b, hb, rfl⟩ := Option.map_eq_some_iff.mp hf
    show Out (match o.get e1 with | some t => need (tru t) e1 | none => .no) _ _
    rw [g1]
    show Out (need (tru ta) e1) _ _
    rw [hb]
    have hk' : k = !b := by have : some (!b) = some k := hk; cases this; rfl
    subst hk'
    exact hq
theorem se_not {ea : E} (ha : SE X c xp ea a) : SE X c xp (.not ea) (.UnaryOp .Not a pos) :=
  .test rfl (peI (pe_notT ha.o) not_imp) (ptI (pt_not ha.t) not_testimp)

/-! ### if-else -/
def mIte (nq : M O) (rb rc : Option Nat) (mb mc : M T) : M T := fun e => (nq e).bind fun o e => (fin1 o (fun t => (tru t).map .bl) e).bind fun t e => match t with
    | .bl true => strong rb mb e
    | .bl false => strong rc mc e
    | _ => .no
theorem out_fin1b {o : O} {f : T → Option T} {env : Env} {α : Type} {P : α → Env → Prop} {Y : Nat → T → Env → Prop} {k : T → Env → R α} (h : Out ((fin1 o f env).bind k) P Y) : ∃ a t, o.get env = some a ∧ f a = some t ∧ Out (k t env) P Y := by
  obtain ⟨x, t, h1, h2, h3⟩ := out_fin1 h.bind
  exact ⟨x, t, h1, h2, h3⟩
theorem strong_out {α : Type} {r : Option Nat} {m : M T} {env : Env} {P : T → Env → Prop} {Y : Nat → T → Env → Prop} (h : Out (strong r m env) P Y) : r = none ∧ Out (m env) P Y := by
  cases r with
  | none => exact ⟨rfl, h⟩
  | some i => exact h.elim
/-- a value that must be one's own: if it is none, nothing is asked -/
theorem pe_strong {e : E} {a : Expr} (h : SE X c xp e a) : PE X a (rS (zx X) xp (strong (isRd e) (ev c e))) := by
  cases q : isRd e with
  | none => exact h.s q
  | some i => exact ⟨fun pins s σ H Q I ⟨_, _, _, _, _, out⟩ => out.elim⟩
theorem testM_of {nq : M O} {r : Option Nat} {m : M T} {env : Env} {α : Type} {P : α → Env → Prop} {Y : Nat → T → Env → Prop} {k : T → Env → R α}
    (h : Out ((opd r m env).bind fun o e => (fin1 o (fun t => (tru t).map .bl) e).bind k) P Y) : Out (testM r m env) (fun b e => Out (k (.bl b) e) P Y) Y := by
  have h := h.bind
  show Out ((opd r m env).bind fun o e => match o.get e with | some t => need (tru t) e | none => .no) _ _
  cases q : opd r m env with
  | no => rw [q] at h; exact h
  | ex k d e => rw [q] at h; exact h
  | ok o e1 =>
    rw [q] at h
    obtain ⟨ta, t, g1, hf, h2⟩ := out_fin1b (show Out ((fin1 o (fun t => (tru t).map T.bl) e1).bind k) P Y from h)
    obtain ⟨b, hb, rfl⟩ := Option.map_eq_some_iff.mp hf
    show Out (match o.get e1 with | some t => need (tru t) e1 | none => .no) _ _
    rw [g1]
    show Out (need (tru ta) e1) _ _
    rw [hb]
    exact h2
theorem ite_imp {Z : Rw} {xp : Xp Z} {r rb rc : Option Nat} {m mb mc : M T} : ∀ σ H Q, rS Z xp (mIte (opd r m) rb rc mb mc) σ H Q → tIf (rT Z xp (testM r m)) (rS Z xp (strong rb mb)) (rS Z xp (strong rc mc)) σ H Q := fun σ H Q ⟨Sh, F, ms, env, sr, out⟩ => by
  refine ⟨Sh, F, ms, env, sr, (testM_of (nq := opd r m) out).imp (fun k e1 h1 H1 Sh1 s1 a1 => ?_) fun _ _ _ x => x⟩
  cases k with
  | true =>
    rw [if_pos rfl]
    exact ⟨Sh1, F, ms, e1, s1, h1.imp (fun t e2 h2 v H' Sh' A s2 r2 a2 => h2 v H' Sh' A s2 r2 (a1.trans a2)) fun _ _ _ x => xp.mono [] a1 x⟩
  | false =>
    rw [if_neg Bool.false_ne_true]
    exact ⟨Sh1, F, ms, e1, s1, h1.imp (fun t e2 h2 v H' Sh' A s2 r2 a2 => h2 v H' Sh' A s2 r2 (a1.trans a2)) fun _ _ _ x => xp.mono [] a1 x⟩
theorem pt_ite {q a b : Expr} {tq ta tb : TT} (hq : PT X q tq) (ha : PT X a ta) (hb : PT X b tb) : PT X (.IfExp q a b pos) (fun σ H Q => tq σ H fun k H1 => if k = true then ta σ H1 Q else tb σ H1 Q) := by
  refine ⟨fun pins s σ H Q I h => ?_⟩
  refine isTrue_IfExp (thn (hq.run pins s σ H _ I h) fun d s1 ⟨H1, I1, q1⟩ => ?_)
  cases d with
  | true => exact ha.run pins s1 σ H1 Q I1 q1
  | false => exact hb.run pins s1 σ H1 Q I1 q1
theorem out_test' {r : Option Nat} {m : M T} {env : Env} {P : Bool → Env → Prop} {Y : Nat → T → Env → Prop} (hr : r = none) (h : Out (m env) (fun t e => ∃ k, tru t = some k ∧ P k e) Y) : Out (testM r m env) P Y := by
  subst hr
  show Out (((m env).bind fun t e => R.ok (O.v t) e).bind fun o e => match o.get e with | some t => need (tru t) e | none => .no) _ _
  cases q : m env with
  | no => rw [q] at h; exact h
  | ex k d e => rw [q] at h; exact h
  | ok t e1 =>
    rw [q] at h
    obtain ⟨k, hk, hp⟩ := h
    show Out (need (tru t) e1) P Y
    rw [hk]
    exact hp
theorem se_ite {eq ea eb : E} {q : Expr} (hq : SE X c xp eq q) (ha : SE X c xp ea a) (hb : SE X c xp eb b) : SE X c xp (.ite eq ea eb) (.IfExp q a b pos) := by
  refine .test rfl (peI (pe_ifExp hq.t (pe_strong ha) (pe_strong hb)) ite_imp) (ptI (pt_ite hq.t ha.t hb.t) fun σ H Q ⟨Sh, F, ms, env, sr, out⟩ => ?_)
  have o2 := testM_of (nq := opd (isRd eq) (ev c eq)) (k := fun t e => match t with
    | .bl true => strong (isRd ea) (ev c ea) e
    | .bl false => strong (isRd eb) (ev c eb) e
    | _ => .no) (out_test out)
  refine ⟨Sh, F, ms, env, sr, o2.imp (fun k e1 h1 H1 Sh1 s1 a1 => ?_) fun _ _ _ x => x⟩
  cases k with
  | true =>
    rw [if_pos rfl]
    obtain ⟨hr, h2⟩ := strong_out (α := T) h1
    exact ⟨Sh1, F, ms, e1, s1, out_test' hr (h2.imp (fun t e2 ⟨k, hk, h3⟩ => ⟨k, hk, fun H' Sh' s2 a2 => h3 H' Sh' s2 (a1.trans a2)⟩) fun _ _ _ x => xp.mono [] a1 x)⟩
  | false =>
    rw [if_neg Bool.false_ne_true]
    obtain ⟨hr, h2⟩ := strong_out (α := T) h1
    exact ⟨Sh1, F, ms, e1, s1, out_test' hr (h2.imp (fun t e2 ⟨k, hk, h3⟩ => ⟨k, hk, fun H' Sh' s2 a2 => h3 H' Sh' s2 (a1.trans a2)⟩) fun _ _ _ x => xp.mono [] a1 x)⟩
end
end Vi

set_option autoImplicit false
set_option Elab.async false
set_option linter.all false
set_option maxRecDepth 100000
/-! VI: a value is shared from now on. -/
namespace Vi
open PySem PySem.Spec PyProof.Rows L2
section
variable {Z : Rw} {Sh Sh' H H' : Hp} {v : V} {t : T} {A F : List Addr} {ms : List (Nat × V)} {σ : L2.St} {env : Env}
theorem Rp.fz1 (r : Rp Z Sh v t) : fz1 t = t := by cases r <;> rfl
theorem map_self {l : List (T × T)} (h : ∀ (i : Nat) (q : T × T), l[i]? = some q → fz1 q.2 = q.2) : l.map (fun p => (p.1, fz1 p.2)) = l := by
  apply List.ext_getElem?
  intro i
  rw [List.getElem?_map]
  cases e : l[i]? with
  | none => rfl
  | some q => show some (q.1, Vi.fz1 q.2) = some q; rw [h i q e]
theorem Rp.fz (r : Rp Z Sh v t) : fz t = t := by
  cases r with
  | dic0 h hl hk hs =>
    show T.dic false _ = _
    rw [map_self fun i q e => ?_]
    obtain ⟨hi, _⟩ := List.getElem?_eq_some_iff.mp e
    exact (hs i _ q (List.getElem?_eq_getElem (by omega)) e).fz1
  | dic1 h hl hk hp hr hs =>
    show T.dic false _ = _
    rw [map_self fun i q e => ?_]
    obtain ⟨hi, _⟩ := List.getElem?_eq_some_iff.mp e
    exact (hs i _ q (List.getElem?_eq_getElem (by omega)) e).fz1
  | _ => rfl
def shF (Sh H : Hp) (A : List Addr) : Hp := fun b => if b ∈ A then H b else Sh b
theorem shF_in {b : Addr} (h : b ∈ A) : shF Sh H A b = H b := if_pos h
theorem shF_out {b : Addr} (h : b ∉ A) : shF Sh H A b = Sh b := if_neg h
theorem shF_grow (h : ∀ a ∈ A, Sh a = none) : Grow Sh (shF Sh H A) := fun a o e => by
  rw [shF_out (fun z => by rw [h a z] at e; cases e)]; exact e
/-- a dict is locked when it is shared -/
def Lock (v : V) (t : T) (H H' : Hp) : Prop := match t with
  | .dic true _ => ∃ a u od, v = .ref a ∧ H a = some u ∧ H' = upd H a (.frz od u)
  | _ => H' = H
theorem mut_dK {kvs : List (Key × V)} : Mut (some (HO.dK kvs)) := True.intro
theorem Inv.lockT {X : Cx} {pins : List (Addr × Obj)} {s : Shared} (I : Inv X pins σ H s) (r : Rep (zx X) Sh H v t A) : ∃ H', Lock v t H H' ∧ Inv X pins σ H' s := by
  cases r with
  | sh h => cases h <;> exact ⟨H, rfl, I⟩
  | lst h n hs => exact ⟨H, rfl, I⟩
  | dic0 h n hk hs =>
    obtain ⟨od, I'⟩ := I.lock h True.intro
    exact ⟨_, ⟨_, _, od, rfl, h, rfl⟩, I'⟩
  | dic1 h n hk hp hr hs =>
    obtain ⟨od, I'⟩ := I.lock h True.intro
    exact ⟨_, ⟨_, _, od, rfl, h, rfl⟩, I'⟩
theorem Lock.out (l : Lock v t H H') (r : Rep Z Sh H v t A) : ∀ b, b ∉ A → H' b = H b := fun b hb => by
  cases r with
  | sh h => cases h <;> (cases (show H' = H from l); rfl)
  | lst h n hs => cases (show H' = H from l); rfl
  | dic0 h n hk hs =>
    obtain ⟨a, u, od, e, h', rfl⟩ := l
    cases e
    exact upd_ne fun z => hb (z ▸ List.mem_cons_self)
  | dic1 h n hk hp hr hs =>
    obtain ⟨a, u, od, e, h', rfl⟩ := l
    cases e
    exact upd_ne fun z => hb (z ▸ List.mem_cons_self)
theorem Lock.there (l : Lock v t H H') (r : Rep Z Sh H v t A) : ∀ b ∈ A, ∃ o, H' b = some o := fun b hb => by
  obtain ⟨_, o, e⟩ := r.there b hb
  cases r with
  | sh h => simp at hb
  | lst h n hs => cases (show H' = H from l); exact ⟨o, e⟩
  | dic0 h n hk hs =>
    obtain ⟨a, u, od, e', h', rfl⟩ := l
    by_cases q : b = a
    · subst q; exact ⟨_, upd_same⟩
    · exact ⟨o, by rw [upd_ne q]; exact e⟩
  | dic1 h n hk hp hr hs =>
    obtain ⟨a, u, od, e', h', rfl⟩ := l
    by_cases q : b = a
    · subst q; exact ⟨_, upd_same⟩
    · exact ⟨o, by rw [upd_ne q]; exact e⟩
theorem VRep.frz {B : List Addr} {vs : List V} {ts : List T} (r : VRep Z Sh H vs ts B) (g : Grow Sh Sh') (hB : ∀ b ∈ B, Sh' b = H b) : RpL Z Sh' vs (ts.map fz1) := by
  induction r with
  | nil => exact RpL.nil
  | sh h _ ih =>
    rw [List.map_cons, h.fz1]
    exact (ih hB).cons (h.mono g)
  | @own a us ls vs ts B h n q _ ih =>
    rw [List.map_cons]
    refine RpL.cons ?_ (ih fun b hb => hB b (List.mem_cons_of_mem _ hb))
    have q' := q.mono g
    exact .lst (.inl (.inl ((hB a List.mem_cons_self).trans h))) q'.1 q'.2
theorem Rep.frozen (r : Rep Z Sh H v t A) (nd : A.Nodup) (l : Lock v t H H') : Rp Z (shF Sh H' A) v (fz t) := by
  have g : Grow Sh (shF Sh H' A) := shF_grow fun a ha => (r.there a ha).1
  have out := l.out r
  cases r with
  | sh h => rw [h.fz]; exact h.mono g
  | lst h n hs =>
    cases (show H' = H from l)
    have q := hs.mono g
    exact .lst (.inl (.inl ((shF_in (by simp)).trans h))) q.1 q.2
  | @dic0 a kvs m B h n hk hs =>
    obtain ⟨a', u, od, e, h', rfl⟩ := l
    cases e
    rw [h] at h'; cases h'
    have nb : ∀ b ∈ B, b ≠ a := fun b hb z => (List.nodup_cons.mp nd).1 (z ▸ hb)
    have q := hs.frz g fun b hb => (shF_in (List.mem_cons_of_mem _ hb)).trans (upd_ne (nb b hb))
    have hl : kvs.length = m.length := by have := congrArg List.length hk; simpa using this
    refine .dic0 (od := od) (kvs := kvs) ((shF_in (by simp)).trans upd_same) (by rw [List.length_map]; exact hl) (by rw [hk, List.map_map]; rfl) fun i p y h1 h2 => ?_
    rw [List.getElem?_map] at h2
    cases e : m[i]? with
    | none => rw [e] at h2; cases h2
    | some x =>
      rw [e] at h2
      cases h2
      exact q.2 i p.2 (Vi.fz1 x.2) (by rw [List.getElem?_map, h1]; rfl) (by rw [List.getElem?_map, List.getElem?_map, e]; rfl)
  | @dic1 a xs m B h n hk hp hr hs =>
    obtain ⟨a', u, od, e, h', rfl⟩ := l
    cases e
    rw [h] at h'; cases h'
    have nb : ∀ b ∈ B, b ≠ a := fun b hb z => (List.nodup_cons.mp nd).1 (z ▸ hb)
    have q := hs.frz g fun b hb => (shF_in (List.mem_cons_of_mem _ hb)).trans (upd_ne (nb b hb))
    have hl : xs.length = m.length := by have := congrArg List.length hk; simpa using this
    refine .dic1 (od := od) (xs := xs) ((shF_in (by simp)).trans upd_same) (by rw [List.length_map]; exact hl) (by rw [hk, List.map_map]; rfl) ⟨fun z => hp.1 (List.map_eq_nil_iff.mp z), fun y hy => ?_⟩ (fun i p y h1 h2 => ?_) fun i p y h1 h2 => ?_
    · obtain ⟨x, hx, rfl⟩ := List.mem_map.mp hy
      exact hp.2 x hx
    all_goals
      rw [List.getElem?_map] at h2
      cases e : m[i]? with
      | none => rw [e] at h2; cases h2
      | some x =>
        rw [e] at h2
        cases h2
        first
          | exact (hr i p x h1 e).mono g
          | exact q.2 i p.2.2 (Vi.fz1 x.2) (by rw [List.getElem?_map, h1]; rfl) (by rw [List.getElem?_map, List.getElem?_map, e]; rfl)
/-- a value in flight is shared -/
theorem SR.freeze (s : SR Z Sh (A ++ F) ms σ H env) (r : Rep Z Sh H v t A) (l : Lock v t H H') : SR Z (shF Sh H' A) F ms σ H' env ∧ Rp Z (shF Sh H' A) v (fz t) ∧ Aft Sh F H (shF Sh H' A) H' := by
  have nd := List.nodup_append.mp s.fr.1
  have g : Grow Sh (shF Sh H' A) := shF_grow fun a ha => (r.there a ha).1
  have out := l.out r
  refine ⟨SR.step (A' := []) s g (fun b o e => ?_) (fun b hb _ => ⟨out b hb, fun z => by rw [shF_out hb]; exact z⟩) (fun b hb => by simp at hb) (by simp), r.frozen nd.1 l, g, fun b hb => out b fun z => nd.2.2 b z b hb rfl⟩
  by_cases hb : b ∈ A
  · rw [shF_in hb] at e; exact e
  · rw [shF_out hb] at e
    rw [out b hb]
    exact s.sub b o e
/-- a variable's value is shared -/
theorem SR.freezeVar (s : SR Z Sh F ms σ H env) {i : Nat} (e : (env[i]?).bind id = some t) : ∃ v A, σ[i]? = some (some v) ∧ Rep Z Sh H v t A ∧ ∀ H', Lock v t H H' → ∃ Sh', SR Z Sh' F ms σ H' (env.set i (some (fz t))) ∧ Rp Z Sh' v (fz t) ∧ Aft Sh F H Sh' H' := by
  obtain ⟨v, A, e1, r, hF, nd, ch⟩ := s.change e
  refine ⟨v, A, e1, r, fun H' l => ⟨shF Sh H' A, ?_, r.frozen nd l, shF_grow fun a ha => (r.there a ha).1, fun b hb => l.out r b fun z => hF b z hb⟩⟩
  have g : Grow Sh (shF Sh H' A) := shF_grow fun a ha => (r.there a ha).1
  refine ch (shF Sh H' A) H' (fz t) [] g (fun b o q => ?_) (fun b hb _ => ⟨l.out r b hb, fun z => by rw [shF_out hb]; exact z⟩) (.sh (r.frozen nd l)) (fun b hb => by simp at hb) (by simp)
  by_cases hb : b ∈ A
  · rw [shF_in hb] at q; exact q
  · rw [shF_out hb] at q
    rw [l.out r b hb]
    exact s.sub b o q
end

section
variable {X : Cx} {c : Cfg} {xp : Xp (zx X)} {e : E} {a b : Expr} {m : M T}
/-- an expression whose value is shared -/
def rF (Z : Rw) (xp : Xp Z) (m : M T) : TE := fun σ H Q => ∃ Sh F ms env, SR Z Sh F ms σ H env ∧
  Out (m env) (fun t env' => ∀ v H' Sh', SR Z Sh' F ms σ H' env' → Rp Z Sh' v (fz t) → Aft Sh F H Sh' H' → Q v H') (xp.p Sh F ms H)
theorem pe_frz (h : PE X a (rS (zx X) xp m)) : PE X a (rF (zx X) xp m) := by
  refine ⟨fun pins s σ H Q I ⟨Sh, F, ms, env, sr, out⟩ => ?_⟩
  refine thn (h.run pins s σ H (fun v H1 => ∃ t env' Sh1 A, SR (zx X) Sh1 (A ++ F) ms σ H1 env' ∧ Rep (zx X) Sh1 H1 v t A ∧ Aft Sh F H Sh1 H1 ∧ ∀ v H' Sh', SR (zx X) Sh' F ms σ H' env' → Rp (zx X) Sh' v (fz t) → Aft Sh F H Sh' H' → Q v H') I
    ⟨Sh, F, ms, env, sr, out.imp (fun t env' q v H1 Sh1 A s1 r1 a1 => ⟨t, env', Sh1, A, s1, r1, a1, q⟩) fun _ _ _ x => x⟩) fun u s1 ⟨v, H1, I1, rv, t, env', Sh1, A, s1', r1, a1, q⟩ => ?_
  obtain ⟨H2, l, I2⟩ := Inv.lockT I1 r1
  obtain ⟨s2, r2, a2⟩ := s1'.freeze r1 l
  exact ⟨v, H2, I2, rv, q v H2 _ s2 r2 (a1.trans a2)⟩
/-- a variable's value, from now on shared -/
theorem pe_getVar {i : Nat} (h : PE X a (tVar i)) : PE X a (rS (zx X) xp (getVar i)) := by
  refine ⟨fun pins s σ H Q I ⟨Sh, F, ms, env, sr, out⟩ => ?_⟩
  unfold getVar at out
  cases q : (env[i]?).bind id with
  | none => rw [q] at out; exact out.elim
  | some t =>
    rw [q] at out
    by_cases ho : own t = true
    · have out : Out (if own t = true then R.ok (fz t) (env.set i (some (fz t))) else R.ok t env) _ _ := out
      rw [if_pos ho] at out
      obtain ⟨v, A, e1, r, fr⟩ := sr.freezeVar q
      refine thn (h.run pins s σ H (fun w H1 => w = v ∧ H1 = H) I ⟨v, e1, rfl, rfl⟩) fun u s1 ⟨w, H1, I1, rv, e2, e3⟩ => ?_
      subst e2 e3
      obtain ⟨H2, l, I2⟩ := Inv.lockT I1 r
      obtain ⟨Sh', s2, r2, a2⟩ := fr H2 l
      exact ⟨_, H2, I2, rv, out _ H2 Sh' [] s2 (.sh r2) a2⟩
    · have out : Out (if own t = true then R.ok (fz t) (env.set i (some (fz t))) else R.ok t env) _ _ := out
      rw [if_neg ho] at out
      obtain ⟨v, A, e1, r, _⟩ := sr.get q
      obtain ⟨r', rfl⟩ := r.shared (by simpa using ho)
      exact h.run pins s σ H Q I ⟨v, e1, out v H Sh [] sr (.sh r') Aft.refl⟩
theorem se_var {i : Nat} (h : PE X a (tVar i)) (he : ∀ whole, isTrue a X.env whole = (do let v ← whole; standAt a.pos; holding [v] (truthy v))) : SE X c xp (.var i) a := .plain rfl (pe_getVar h) he
theorem se_rd {i : Nat} (h : PE X a (tVar i)) (he : ∀ whole, isTrue a X.env whole = (do let v ← whole; standAt a.pos; holding [v] (truthy v))) : SE X c xp (.rd i) a :=
  SE.mk (e := .rd i) (fun q => nomatch q) (rO_rd h) (ptI (pt_truth (rO_rd (Z := zx X) (xp := xp) (m := ev c (.rd i)) h) he) (test_imp (Z := zx X) (xp := xp) (r := some i)))
theorem pe_frzS {e : E} (h : SE X c xp e a) : PE X a (rF (zx X) xp (strong (isRd e) (ev c e))) := pe_frz (pe_strong h)

/-! ### and, or -/
structure SAnd (X : Cx) (c : Cfg) (xp : Xp (zx X)) (es : Es) (xs : List Expr) (pos : Pos) : Prop where
  s : PE X (.BoolOp .And xs pos) (rS (zx X) xp (evAnd c es))
  w : PW X (.BoolOp .And xs pos) (rT (zx X) xp (testM none (evAnd c es)))
structure SOr (X : Cx) (c : Cfg) (xp : Xp (zx X)) (es : Es) (xs : List Expr) (pos : Pos) : Prop where
  s : PE X (.BoolOp .Or xs pos) (rS (zx X) xp (evOr c es))
  w : PW X (.BoolOp .Or xs pos) (rT (zx X) xp (testM none (evOr c es)))
variable {pos : Pos} {es : Es} {xs : List Expr}
theorem pt_strong {e : E} (h : SE X c xp e a) : PT X a (rT (zx X) xp (testM none (strong (isRd e) (ev c e)))) := by
  cases q : isRd e with
  | none =>
    have := h.t
    rw [q] at this
    exact this
  | some i => exact ⟨fun pins s σ H Q I ⟨_, _, _, _, _, out⟩ => out.elim⟩
theorem sand_one {e : E} (h : SE X c xp e a) : SAnd X c xp (.cons e .nil) [a] pos := ⟨pe_one (pe_strong h), pw_and1 (pt_strong h)⟩
theorem sor_one {e : E} (h : SE X c xp e a) : SOr X c xp (.cons e .nil) [a] pos := ⟨pe_one (pe_strong h), pw_or1 (pt_strong h)⟩
theorem sand_cons {e f : E} (h : SE X c xp e a) (r : SAnd X c xp (.cons f es) (b :: xs) pos) : SAnd X c xp (.cons e (.cons f es)) (a :: b :: xs) pos := by
  refine ⟨peI (pe_andT (pe_strong h) r.s) fun σ H Q ⟨Sh, F, ms, env, sr, out⟩ => ?_, pwI (pw_and (pt_strong h) r.w) fun σ H Q ⟨Sh, F, ms, env, sr, out⟩ => ?_⟩
  · have out : Out ((strong (isRd e) (ev c e) env).bind _) _ _ := out
    refine ⟨Sh, F, ms, env, sr, out.bind.imp (fun t e1 h1 v H1 Sh1 A s1 r1 a1 => ?_) fun _ _ _ x => x⟩
    cases q : tru t with
    | none => rw [q] at h1; exact h1.elim
    | some k =>
      rw [q] at h1
      refine ⟨k, truV_of s1 r1 q, ?_⟩
      cases k with
      | true =>
        rw [if_pos rfl]
        exact ⟨Sh1, F, ms, e1, s1.less, (show Out (evAnd c (.cons f es) e1) _ _ from h1).imp (fun t e2 h2 v H' Sh' A s2 r2 a2 => h2 v H' Sh' A s2 r2 (a1.trans a2)) fun _ _ _ x => xp.mono [] a1 x⟩
      | false =>
        rw [if_neg Bool.false_ne_true]
        exact (show ∀ v H' Sh' A, _ from h1) v H1 Sh1 A s1 r1 a1
  · have o2 : Out ((strong (isRd e) (ev c e) env).bind _) _ _ := out_test out
    refine ⟨Sh, F, ms, env, sr, ?_⟩
    refine out_test' rfl (o2.bind.imp (fun t e1 h1 => ?_) fun _ _ _ x => x)
    cases q : tru t with
    | none => rw [q] at h1; exact h1.elim
    | some k =>
      rw [q] at h1
      refine ⟨k, rfl, fun H1 Sh1 s1 a1 => ?_⟩
      cases k with
      | true =>
        rw [if_pos rfl]
        exact ⟨Sh1, F, ms, e1, s1, out_test' rfl ((show Out (evAnd c (.cons f es) e1) _ _ from h1).imp (fun t e2 ⟨k, hk, h2⟩ => ⟨k, hk, fun H' Sh' s2 a2 => h2 H' Sh' s2 (a1.trans a2)⟩) fun _ _ _ x => xp.mono [] a1 x)⟩
      | false =>
        rw [if_neg Bool.false_ne_true]
        obtain ⟨k2, hk2, h2⟩ := (show ∃ k, tru t = some k ∧ _ from h1)
        rw [q] at hk2; cases hk2
        exact h2 H1 Sh1 s1 a1
theorem sor_cons {e f : E} (h : SE X c xp e a) (r : SOr X c xp (.cons f es) (b :: xs) pos) : SOr X c xp (.cons e (.cons f es)) (a :: b :: xs) pos := by
  refine ⟨peI (pe_orT (pe_strong h) r.s) fun σ H Q ⟨Sh, F, ms, env, sr, out⟩ => ?_, pwI (pw_or (pt_strong h) r.w) fun σ H Q ⟨Sh, F, ms, env, sr, out⟩ => ?_⟩
  · have out : Out ((strong (isRd e) (ev c e) env).bind _) _ _ := out
    refine ⟨Sh, F, ms, env, sr, out.bind.imp (fun t e1 h1 v H1 Sh1 A s1 r1 a1 => ?_) fun _ _ _ x => x⟩
    cases q : tru t with
    | none => rw [q] at h1; exact h1.elim
    | some k =>
      rw [q] at h1
      refine ⟨k, truV_of s1 r1 q, ?_⟩
      cases k with
      | false =>
        rw [if_neg Bool.false_ne_true]
        exact ⟨Sh1, F, ms, e1, s1.less, (show Out (evOr c (.cons f es) e1) _ _ from h1).imp (fun t e2 h2 v H' Sh' A s2 r2 a2 => h2 v H' Sh' A s2 r2 (a1.trans a2)) fun _ _ _ x => xp.mono [] a1 x⟩
      | true =>
        rw [if_pos rfl]
        exact (show ∀ v H' Sh' A, _ from h1) v H1 Sh1 A s1 r1 a1
  · have o2 : Out ((strong (isRd e) (ev c e) env).bind _) _ _ := out_test out
    refine ⟨Sh, F, ms, env, sr, ?_⟩
    refine out_test' rfl (o2.bind.imp (fun t e1 h1 => ?_) fun _ _ _ x => x)
    cases q : tru t with
    | none => rw [q] at h1; exact h1.elim
    | some k =>
      rw [q] at h1
      refine ⟨k, rfl, fun H1 Sh1 s1 a1 => ?_⟩
      cases k with
      | false =>
        rw [if_neg Bool.false_ne_true]
        exact ⟨Sh1, F, ms, e1, s1, out_test' rfl ((show Out (evOr c (.cons f es) e1) _ _ from h1).imp (fun t e2 ⟨k, hk, h2⟩ => ⟨k, hk, fun H' Sh' s2 a2 => h2 H' Sh' s2 (a1.trans a2)⟩) fun _ _ _ x => xp.mono [] a1 x)⟩
      | true =>
        rw [if_pos rfl]
        obtain ⟨k2, hk2, h2⟩ := (show ∃ k, tru t = some k ∧ _ from h1)
        rw [q] at hk2; cases hk2
        exact h2 H1 Sh1 s1 a1
theorem se_and (r : SAnd X c xp es xs pos) : SE X c xp (.and es) (.BoolOp .And xs pos) := .test rfl r.s (PW.pt r.w)
theorem se_or (r : SOr X c xp es xs pos) : SE X c xp (.or es) (.BoolOp .Or xs pos) := .test rfl r.s (PW.pt r.w)
end
end Vi

set_option autoImplicit false
set_option Elab.async false
set_option linter.all false
set_option maxRecDepth 100000
/-! VI: displays, subscripts, slices, built-ins. -/
namespace Vi
open PySem PySem.Spec PyProof.Rows L2
section
variable {X : Cx} {c : Cfg} {xp : Xp (zx X)} {e : E} {a b d : Expr} {pos : Pos} {es : Es} {xs : List Expr}
def notStar : Expr → Bool
  | .Starred _ _ => false
  | _ => true
theorem star_of {env : PySem.Env} (h : notStar a = true) : starEach (a :: xs) env = (false, eval a env) :: starEach xs env := by
  cases a <;> first | rfl | cases h
/-- values to be kept -/
def rA (Z : Rw) (xp : Xp Z) (m : M (List T)) : TA := fun σ H Q => ∃ Sh F ms env, SR Z Sh F ms σ H env ∧
  Out (m env) (fun ts env' => ∀ vs H' Sh', SR Z Sh' F ms σ H' env' → RpL Z Sh' vs ts → Aft Sh F H Sh' H' → Q vs H') (xp.p Sh F ms H)
theorem sa_nil : PA X [] (rA (zx X) xp (evs c .nil)) := paI pa_nil fun σ H Q ⟨Sh, F, ms, env, sr, out⟩ => (show Out (R.ok [] env) _ _ from out) [] H Sh sr RpL.nil Aft.refl
theorem sa_cons (h : SE X c xp e a) (hr : PA X xs (rA (zx X) xp (evs c es))) (hs : notStar a = true) : PA X (a :: xs) (rA (zx X) xp (evs c (.cons e es))) :=
  paI (pa_cons (pe_frzS h) hr (star_of hs)) fun σ H Q ⟨Sh, F, ms, env, sr, out⟩ => by
    have out : Out ((strong (isRd e) (ev c e) env).bind fun t e => (evs c es e).bind fun l e => R.ok (fz t :: l) e) _ _ := out
    refine ⟨Sh, F, ms, env, sr, out.bind.imp (fun t e1 h1 v H1 Sh1 s1 r1 a1 => ?_) fun _ _ _ x => x⟩
    refine ⟨Sh1, F, ms, e1, s1, h1.bind.imp (fun l e2 h2 vs H2 Sh2 s2 r2 a2 => ?_) fun _ _ _ x => xp.mono [] a1 x⟩
    exact (show ∀ vs H' Sh', _ from h2) (v :: vs) H2 Sh2 s2 (r2.cons (r1.mono a2.grow)) (a1.trans a2)
def esLen : Es → Nat
  | .nil => 0
  | .cons _ es => esLen es + 1
theorem evs_len : ∀ (es : Es) (env e : Env) (ts : List T), evs c es env = .ok ts e → ts.length = esLen es
  | .nil, env, e, ts, h => by
    have h : R.ok ([] : List T) env = .ok ts e := h
    cases h; rfl
  | .cons x es, env, e, ts, h => by
    have h : ((strong (isRd x) (ev c x) env).bind fun t e => (evs c es e).bind fun l e => R.ok (fz t :: l) e) = .ok ts e := h
    obtain ⟨t, e1, _, h⟩ := bind_ok h
    obtain ⟨l, e2, h1, h⟩ := bind_ok h
    cases h
    show l.length + 1 = esLen es + 1
    rw [evs_len es e1 _ l h1]
theorem out_len {env : Env} {P : List T → Env → Prop} {Y : Nat → T → Env → Prop} (h : Out (evs c es env) P Y) : Out (evs c es env) (fun ts e => ts.length = esLen es ∧ P ts e) Y := by
  cases q : evs c es env with
  | no => rw [q] at h; exact h
  | ex k d e => rw [q] at h; exact h
  | ok ts e => rw [q] at h; exact ⟨evs_len es env e ts q, h⟩
theorem se_tup {k : Nat} (h : PA X xs (rA (zx X) xp (evs c es))) (hl : esLen es ≤ 1000) : SE X c xp (.tup es) (.Tuple xs k pos) := by
  refine .plain rfl (peI (pe_tup h) fun σ H Q ⟨Sh, F, ms, env, sr, out⟩ => ?_) (fun _ => rfl)
  have out : Out ((evs c es env).bind fun l e => R.ok (T.tup l) e) _ _ := out
  refine ⟨Sh, F, ms, env, sr, (out_len out.bind).imp (fun ts e1 ⟨hn, h1⟩ vs H1 Sh1 s1 r1 a1 => ⟨?_, fun p hp => ?_⟩) fun _ _ _ x => x⟩
  · have hz := sizeLine_eq; rw [r1.1, hz]; omega
  · exact Fin.newT (Z := zx X) (F := F) (fun v H' Sh' C s3 r3 a3 => (show ∀ v H' Sh' A, _ from h1) v H' Sh' C s3 r3 (a1.trans a3)) s1 r1 hp
theorem se_lst (h : PA X xs (rA (zx X) xp (evs c es))) (hl : esLen es ≤ 1000) : SE X c xp (.lst es) (.List xs pos) := by
  refine .plain rfl (peI (pe_lst h) fun σ H Q ⟨Sh, F, ms, env, sr, out⟩ => ?_) (fun _ => rfl)
  have out : Out ((evs c es env).bind fun l e => R.ok (T.lst true l) e) _ _ := out
  refine ⟨Sh, F, ms, env, sr, (out_len out.bind).imp (fun ts e1 ⟨hn, h1⟩ vs H1 Sh1 s1 r1 a1 => ⟨?_, fun p hp => ?_⟩) fun _ _ _ x => x⟩
  · have hz := sizeLine_eq; rw [r1.1, hz]; omega
  · exact Fin.newL (Z := zx X) (F := F) (fun v H' Sh' C s3 r3 a3 => (show ∀ v H' Sh' A, _ from h1) v H' Sh' C s3 r3 (a1.trans a3)) s1 r1 hp

/-! ### a dict that is written with ints and texts as keys -/
theorem keyT_inj {k j : Key} (h : keyT k = keyT j) : k = j := by
  cases k <;> cases j <;> simp [keyT] at h
  · rw [h]
  · rename_i a b
    have : a.cps = b.cps := h
    cases a; cases b; cases this; rfl
theorem keq_keyT (k j : Key) : keq (keyT k) (keyT j) = decide (k = j) := by
  cases k <;> cases j <;> simp only [keyT, keq]
  · rename_i a b
    rw [key_ll]
  · rw [key_lr]
  · rw [key_rl]
  · rename_i a b
    rw [key_rr, Bool.eq_iff_iff]
    simp only [beq_iff_eq, decide_eq_true_eq]
    exact ⟨fun h => by cases a; cases b; simp only [Array.toList_inj] at h; rw [h], fun h => by rw [h]⟩
/-- int and text keys: the model's dict and the plain one -/
structure KR (Z : Rw) (Sh : Hp) (kvs : List (Key × V)) (l : List (T × T)) : Prop where
  hk : kvs.map (fun p => keyT p.1) = l.map (·.1)
  hv : RpL Z Sh (kvs.map (·.2)) (l.map (·.2))
variable {Z : Rw} {Sh Sh' : Hp}
theorem any_rel (k : Key) : ∀ {kvs : List (Key × V)} {l : List (T × T)}, kvs.map (fun p => keyT p.1) = l.map (·.1) → (kvs.any fun kv => decide (kv.1 = k)) = dhas l (keyT k)
  | [], [], _ => rfl
  | [], _ :: _, h => by simp at h
  | _ :: _, [], h => by simp at h
  | p :: kvs, q :: l, h => by
    simp only [List.map_cons, List.cons.injEq] at h
    unfold dhas
    rw [List.any_cons, List.any_cons, ← h.1, keq_keyT]
    have := any_rel k (kvs := kvs) (l := l) h.2
    unfold dhas at this
    rw [this]
theorem putK_keys (k : Key) (v : V) (t : T) {kvs : List (Key × V)} {l : List (T × T)} (h : kvs.map (fun p => keyT p.1) = l.map (·.1)) : (putK kvs k v).map (fun p => keyT p.1) = (dput l (keyT k) t).map (·.1) := by
  unfold putK dput
  rw [any_rel k h]
  by_cases c : dhas l (keyT k) = true
  · rw [if_pos c, if_pos c, List.map_map, List.map_map]
    have e1 : (fun p : Key × V => keyT p.1) ∘ (fun kv => if kv.1 = k then (kv.1, v) else kv) = fun p => keyT p.1 := by
      funext p; simp only [Function.comp]; split <;> rfl
    have e2 : (fun p : T × T => p.1) ∘ (fun p => if keq p.1 (keyT k) = true then (p.1, t) else p) = fun p => p.1 := by
      funext p; simp only [Function.comp]; split <;> rfl
    first
      | rw [e1, e2]; exact h
      | (simp only [Function.comp_def] at *; simp only [apply_ite Prod.fst, ite_self] at *; simpa using h)
  · rw [if_neg c, if_neg c, List.map_append, List.map_append, h]
    rfl
theorem KR.put {kvs : List (Key × V)} {l : List (T × T)} (r : KR Z Sh kvs l) (k : Key) {v : V} {t : T} (h : Rp Z Sh v t) : KR Z Sh (putK kvs k v) (dput l (keyT k) t) := by
  refine ⟨putK_keys k v t r.hk, ?_⟩
  unfold putK dput
  rw [any_rel k r.hk]
  by_cases c : dhas l (keyT k) = true
  · rw [if_pos c, if_pos c]
    refine ⟨by have := r.hv.1; simpa using this, fun i w u h1 h2 => ?_⟩
    rw [List.getElem?_map, List.getElem?_map] at h1 h2
    cases e1 : kvs[i]? with
    | none => rw [e1] at h1; cases h1
    | some p =>
      cases e2 : l[i]? with
      | none => rw [e2] at h2; cases h2
      | some q =>
        rw [e1] at h1; rw [e2] at h2
        have hq : keyT p.1 = q.1 := by
          have := congrArg (fun z => z[i]?) r.hk
          simp only [List.getElem?_map, e1, e2] at this
          exact Option.some.inj this
        have hpq := r.hv.2 i p.2 q.2 (by rw [List.getElem?_map, e1]; rfl) (by rw [List.getElem?_map, e2]; rfl)
        simp only [Option.map_some, Option.some.injEq] at h1 h2
        rw [← hq, keq_keyT] at h2
        by_cases z : p.1 = k
        · rw [if_pos z] at h1
          rw [if_pos (decide_eq_true z)] at h2
          rw [← h1, ← h2]; exact h
        · rw [if_neg z] at h1
          rw [if_neg (by simpa using z)] at h2
          rw [← h1, ← h2]; exact hpq
  · rw [if_neg c, if_neg c, List.map_append, List.map_append]
    exact r.hv.append (RpL.nil.cons h)
theorem KR.mono {kvs : List (Key × V)} {l : List (T × T)} (r : KR Z Sh kvs l) (g : Grow Sh Sh') : KR Z Sh' kvs l := ⟨r.hk, r.hv.mono g⟩
theorem KR.nil : KR Z Sh [] [] := ⟨rfl, RpL.nil⟩
theorem VRep.ofRpL {H : Hp} : ∀ {vs : List V} {ts : List T}, RpL Z Sh vs ts → VRep Z Sh H vs ts []
  | [], [], _ => .nil
  | [], _ :: _, h => by have := h.1; simp at this
  | _ :: _, [], h => by have := h.1; simp at this
  | _ :: _, _ :: _, h => .sh h.head (VRep.ofRpL h.tail)
theorem kind0_key {t : T} (h : kind? t = some false) : ∃ k : Key, keyT k = t ∧ ∀ {Sh : Hp} {v : V}, Rp Z Sh v t → v = kV k := by
  cases t <;> simp only [kind?] at h <;> try (cases h; done)
  · exact ⟨.inl _, rfl, fun r => by cases r; rfl⟩
  · rename_i s
    refine ⟨.inr (sOf s), ?_, fun r => by cases r; rfl⟩
    show T.str (sOf s).cps.toList = _
    rw [sOf_cps]
  · split at h <;> cases h
end
end Vi

set_option autoImplicit false
set_option Elab.async false
set_option linter.all false
set_option maxRecDepth 100000
/-! VI: dicts. -/
namespace Vi
open PySem PySem.Spec PyProof.Rows L2
section
variable {X : Cx} {pins : List (Addr × Obj)} {σ : L2.St} {H Sh : Hp} {s : Shared}
/-! ### keys that are tuples -/
mutual
theorem nk_inj : ∀ (n m : Nat) (a b : T), isPart n a = true → isPart m b = true → nk a = nk b → a = b
  | n + 1, m + 1, .tup l, .tup k, h, q, e => by
    have e' : nks l = nks k := by simpa [nk] using e
    rw [nks_inj n m l k (by simpa [isPart] using h) (by simpa [isPart] using q) e']
  | 0, _, .tup l, _, h, q, e => by simp [isPart] at h
  | _, 0, _, .tup l, h, q, e => by simp [isPart] at q
  | _, _, .und, _, h, q, e => by simp [isPart] at h
  | _, _, .bl _, _, h, q, e => by simp [isPart] at h
  | _, _, .lst _ _, _, h, q, e => by simp [isPart] at h
  | _, _, .dic _ _, _, h, q, e => by simp [isPart] at h
  | _, _, _, .und, h, q, e => by simp [isPart] at q
  | _, _, _, .bl _, h, q, e => by simp [isPart] at q
  | _, _, _, .lst _ _, h, q, e => by simp [isPart] at q
  | _, _, _, .dic _ _, h, q, e => by simp [isPart] at q
  | _, _, .non, .non, _, _, _ => rfl
  | _, _, .non, .int _, h, q, e => by simp [nk] at e
  | _, _, .non, .str _, h, q, e => by simp [nk] at e
  | _, _, .non, .tup _, h, q, e => by simp [nk] at e
  | _, _, .int _, .non, h, q, e => by simp [nk] at e
  | _, _, .int a, .int b, h, q, e => by simp [nk] at e; rw [e]
  | _, _, .int _, .str _, h, q, e => by simp [nk] at e
  | _, _, .int _, .tup _, h, q, e => by simp [nk] at e
  | _, _, .str _, .non, h, q, e => by simp [nk] at e
  | _, _, .str _, .int _, h, q, e => by simp [nk] at e
  | _, _, .str a, .str b, h, q, e => by
    have e' : sOf a = sOf b := by simpa [nk] using e
    rw [sOf_inj e']
  | _, _, .str _, .tup _, h, q, e => by simp [nk] at e
  | _, _, .tup _, .non, h, q, e => by simp [nk] at e
  | _, _, .tup _, .int _, h, q, e => by simp [nk] at e
  | _, _, .tup _, .str _, h, q, e => by simp [nk] at e
theorem nks_inj : ∀ (n m : Nat) (l k : List T), isParts n l = true → isParts m k = true → nks l = nks k → l = k
  | _, _, [], [], _, _, _ => rfl
  | _, _, [], _ :: _, _, _, e => by simp [nks] at e
  | _, _, _ :: _, [], _, _, e => by simp [nks] at e
  | n, m, a :: l, b :: k, h, q, e => by
    have h' : isPart n a = true ∧ isParts n l = true := by simpa [isParts] using h
    have q' : isPart m b = true ∧ isParts m k = true := by simpa [isParts] using q
    have e' : nk a = nk b ∧ nks l = nks k := by simpa [nks] using e
    rw [nk_inj n m a b h'.1 q'.1 e'.1, nks_inj n m l k h'.2 q'.2 e'.2]
end
mutual
theorem keq_nk : ∀ (n m : Nat) (a b : T), isPart n a = true → isPart m b = true → keq a b = decide (nk a = nk b)
  | n + 1, m + 1, .tup l, .tup k, h, q => by
    rw [keq, keqs_nk n m l k (by simpa [isPart] using h) (by simpa [isPart] using q)]
    simp [nk]
  | 0, _, .tup l, _, h, q => by simp [isPart] at h
  | _, 0, _, .tup l, h, q => by simp [isPart] at q
  | _, _, .und, _, h, q => by simp [isPart] at h
  | _, _, .bl _, _, h, q => by simp [isPart] at h
  | _, _, .lst _ _, _, h, q => by simp [isPart] at h
  | _, _, .dic _ _, _, h, q => by simp [isPart] at h
  | _, _, _, .und, h, q => by simp [isPart] at q
  | _, _, _, .bl _, h, q => by simp [isPart] at q
  | _, _, _, .lst _ _, h, q => by simp [isPart] at q
  | _, _, _, .dic _ _, h, q => by simp [isPart] at q
  | _, _, .non, .non, _, _ => by simp [keq, nk]
  | _, _, .non, .int _, h, q => by simp [keq, nk]
  | _, _, .non, .str _, h, q => by simp [keq, nk]
  | _, _, .non, .tup _, h, q => by simp [keq, nk]
  | _, _, .int _, .non, h, q => by simp [keq, nk]
  | _, _, .int a, .int b, h, q => by simp [keq, nk]; rfl
  | _, _, .int _, .str _, h, q => by simp [keq, nk]
  | _, _, .int _, .tup _, h, q => by simp [keq, nk]
  | _, _, .str _, .non, h, q => by simp [keq, nk]
  | _, _, .str _, .int _, h, q => by simp [keq, nk]
  | _, _, .str a, .str b, h, q => by
    simp only [keq, nk, NestedKey.text.injEq]
    rw [Bool.eq_iff_iff]
    simp only [beq_iff_eq, decide_eq_true_eq]
    exact ⟨fun e => by rw [e], sOf_inj⟩
  | _, _, .str _, .tup _, h, q => by simp [keq, nk]
  | _, _, .tup _, .non, h, q => by simp [keq, nk]
  | _, _, .tup _, .int _, h, q => by simp [keq, nk]
  | _, _, .tup _, .str _, h, q => by simp [keq, nk]
theorem keqs_nk : ∀ (n m : Nat) (l k : List T), isParts n l = true → isParts m k = true → keqs l k = decide (nks l = nks k)
  | _, _, [], [], _, _ => by simp [keqs, nks]
  | _, _, [], _ :: _, _, _ => by simp [keqs, nks]
  | _, _, _ :: _, [], _, _ => by simp [keqs, nks]
  | n, m, a :: l, b :: k, h, q => by
    have h' : isPart n a = true ∧ isParts n l = true := by simpa [isParts] using h
    have q' : isPart m b = true ∧ isParts m k = true := by simpa [isParts] using q
    rw [keqs, keq_nk n m a b h'.1 q'.1, keqs_nk n m l k h'.2 q'.2]
    simp [nks, Bool.decide_and]
end
mutual
theorem nis_of (I : Inv X pins σ H s) (g : Grow Sh H) : ∀ (n : Nat) (t : T) (v : V) (u : Value), isPart n t = true → Rp (zx X) Sh v t → RelV v u → NestedIs s.heap (nk t) u ∧ (nk t).depth ≤ n
  | _, .non, v, u, h, r, q => by cases r; cases q; exact ⟨.none, by simp [nk, NestedKey.depth]⟩
  | _, .int i, v, u, h, r, q => by cases r; obtain ⟨t, rfl⟩ := q; exact ⟨.int i t, by simp [nk, NestedKey.depth]⟩
  | _, .str x, v, u, h, r, q => by cases r; obtain ⟨t, rfl⟩ := q; exact ⟨.text _ t, by simp [nk, NestedKey.depth]⟩
  | n + 1, .tup l, v, u, h, r, q => by
    cases r with
    | tup hq hl hs =>
      cases q
      obtain ⟨its, rv, ⟨o, ho, hc, k, hd⟩, _⟩ := I.tuple (Grow.sqT g hq)
      obtain ⟨h1, h2⟩ := niss_of I g n l _ its (by simpa [isPart] using h) ⟨hl, hs⟩ rv
      exact ⟨.tup ho hc hd (by simpa using h1), by simp [nk, NestedKey.depth]; omega⟩
  | 0, .tup l, v, u, h, r, q => by simp [isPart] at h
  | _, .und, v, u, h, r, q => by simp [isPart] at h
  | _, .bl _, v, u, h, r, q => by simp [isPart] at h
  | _, .lst _ _, v, u, h, r, q => by simp [isPart] at h
  | _, .dic _ _, v, u, h, r, q => by simp [isPart] at h
theorem niss_of (I : Inv X pins σ H s) (g : Grow Sh H) : ∀ (n : Nat) (l : List T) (vs : List V) (us : List Value), isParts n l = true → RpL (zx X) Sh vs l → Vals vs us → NestedAll s.heap (nks l) us ∧ NestedKey.depthAll (nks l) ≤ n
  | n, [], vs, us, h, r, q => by
    rw [r.inv_nil] at q
    cases q
    exact ⟨.nil, by simp [nks, NestedKey.depthAll]⟩
  | n, a :: l, vs, us, h, r, q => by
    obtain ⟨v, vr, rfl, r1, r2⟩ := r.inv_cons
    have h' : isPart n a = true ∧ isParts n l = true := by simpa [isParts] using h
    cases q with
    | cons q1 q2 =>
      obtain ⟨h1, h2⟩ := nis_of I g n a v _ h'.1 r1 q1
      obtain ⟨h3, h4⟩ := niss_of I g n l vr _ h'.2 r2 q2
      exact ⟨.cons h1 h3, by simp [nks, NestedKey.depthAll]; omega⟩
end
theorem key1_tup {t : T} (h : kind? t = some true) : ∃ l, t = .tup l ∧ isParts 7 l = true := by
  cases t <;> simp only [kind?] at h <;> try (cases h; done)
  rename_i l
  split at h
  · rename_i h1; exact ⟨l, rfl, h1⟩
  · cases h
theorem key1_is (I : Inv X pins σ H s) (g : Grow Sh H) {t : T} {b : Addr} (h : kind? t = some true) (r : Rp (zx X) Sh (.ref b) t) : (nestedKind X.prog X.w).is s.heap (nk t) b := by
  obtain ⟨l, rfl, hp⟩ := key1_tup h
  exact nis_of I g 8 (.tup l) (.ref b) (.ref b) (by simpa [isPart] using hp) r rfl
theorem key1_ref {Z : Rw} {t : T} {v : V} (h : kind? t = some true) (r : Rp Z Sh v t) : ∃ b, v = .ref b := by
  obtain ⟨l, rfl, _⟩ := key1_tup h
  cases r with | tup _ _ _ => exact ⟨_, rfl⟩
/-- the entries' keys are there -/
def KeysIn (Z : Rw) (Sh : Hp) (xs : List (NestedKey × Addr × V)) : Prop := ∀ p ∈ xs, ∃ t, kind? t = some true ∧ nk t = p.1 ∧ Rp Z Sh (.ref p.2.1) t
def lookK (xs : List (NestedKey × Addr × V)) (k : NestedKey) : Option V := (xs.find? fun p => decide (p.1 = k)).map (·.2.2)
/-- what a dict has at a key -/
def DLook (Z : Rw) (Sh H : Hp) (a : Addr) (y : V) (o : Option V) : Prop := Grow Sh H ∧
  ((∃ kvs key, Rd H a (.dK kvs) ∧ y = kV key ∧ o = valV kvs key) ∨
   (∃ xs b t, Rd H a (keyedO Z.P Z.w a xs) ∧ y = .ref b ∧ kind? t = some true ∧ Rp Z Sh (.ref b) t ∧ KeysIn Z Sh xs ∧ o = lookK xs (nk t)) ∨
   (∃ b t, Rd H a (.dK []) ∧ y = .ref b ∧ kind? t = some true ∧ Rp Z Sh (.ref b) t ∧ o = none))
/-- a keyed dict, as the library has it -/
theorem keyed_at (I : Inv X pins σ H s) (g : Grow Sh H) {a : Addr} {xs : List (NestedKey × Addr × V)} (h : Rd H a (keyedO X.prog X.w a xs)) (hk : KeysIn (zx X) Sh xs) :
    (a == sysModules) = false ∧ xs.length ≤ sizeLine ∧ ∃ ys : List (NestedKey × Addr × Value), Paired (fun (p : NestedKey × Addr × V) (q : NestedKey × Addr × Value) => p.1 = q.1 ∧ p.2.1 = q.2.1 ∧ RelV p.2.2 q.2.2) xs ys ∧ s.heap.DictOfH (nestedKind X.prog X.w) a ys := by
  obtain ⟨⟨h1, h2, ys, r, o, es, ep, e1, e2, e3, e4, e5⟩, _⟩ := h.ok I.hok
  refine ⟨h1, h2, ys, r, o, es, ep, e1, e2, e3, e4, fun y hy => ?_, e5⟩
  obtain ⟨i, hi⟩ := List.getElem?_of_mem hy
  have : ∃ p, xs[i]? = some p ∧ p.1 = y.1 ∧ p.2.1 = y.2.1 := by
    have aux : ∀ {xs : List (NestedKey × Addr × V)} {ys : List (NestedKey × Addr × Value)} (i : Nat), Paired (fun (p : NestedKey × Addr × V) (q : NestedKey × Addr × Value) => p.1 = q.1 ∧ p.2.1 = q.2.1 ∧ RelV p.2.2 q.2.2) xs ys → ys[i]? = some y → ∃ p, xs[i]? = some p ∧ p.1 = y.1 ∧ p.2.1 = y.2.1 := by
      intro xs ys i r
      induction r generalizing i with
      | nil => intro h; simp at h
      | cons h _ ih =>
        intro e
        cases i with
        | zero => simp at e; subst e; exact ⟨_, rfl, h.1, h.2.1⟩
        | succ i => exact ih i (by simpa using e)
    exact aux i r hi
  obtain ⟨p, hp, p1, p2⟩ := this
  obtain ⟨t, t1, t2, t3⟩ := hk p (List.mem_of_getElem? hp)
  rw [← p1, ← p2, ← t2]
  exact key1_is I g t1 t3
theorem look_rel {xs : List (NestedKey × Addr × V)} {ys : List (NestedKey × Addr × Value)} (k : NestedKey) (r : Paired (fun (p : NestedKey × Addr × V) (q : NestedKey × Addr × Value) => p.1 = q.1 ∧ p.2.1 = q.2.1 ∧ RelV p.2.2 q.2.2) xs ys) :
    RelO (lookK xs k) ((atKey ys k).map (·.2)) := by
  unfold lookK
  induction r with
  | nil => trivial
  | @cons p q _ _ h _ ih =>
    rw [List.find?_cons]
    by_cases e : p.1 = k
    · rw [decide_eq_true e]
      have e2 : q.1 = k := by rw [← h.1]; exact e
      simp [atKey, e2]
      exact h.2.2
    · rw [decide_eq_false e]
      have e2 : ¬ q.1 = k := by rw [← h.1]; exact e
      simpa [atKey, e2] using ih
/-- an empty dict is one of any keys -/
theorem empty_at (I : Inv X pins σ H s) {a : Addr} (h : Rd H a (.dK [])) : (a == sysModules) = false ∧ s.heap.DictOfH (nestedKind X.prog X.w) a [] := by
  obtain ⟨_, h1, vs, r, o, es, ep, e1, e2, e3, e4, e5⟩ := dk_rd I.hok h
  cases r
  refine ⟨h1, o, es, ep, e1, e2, e3, ?_, (fun _ z => nomatch z), List.nodup_nil⟩
  have q := e5.1
  generalize es.toList = L at q ⊢
  cases q
  rfl
theorem room8 {A : Around} (hu : A.units + 65 < cLine) : (nestedKind X.prog X.w).room A.in1 := by
  show A.units + 1 + 8 < cLine
  omega
variable {A : Around} {E : Value → Shared → Prop} {a : Addr} {y v d : V} {u r : Value} {o : Option V}
/-- y in x -/
theorem zd_in {Q : Value → Shared → Prop} (hu : A.units + 65 < cLine) (I : Inv X pins σ H s) (g : DLook (zx X) Sh H a y o) (ry : RelV y u) (h : ∀ s', Inv X pins σ H s' → Q (.bool o.isSome) s') :
    wpAny (model X.prog X.w) A (compareOp .In u (.ref a)) Q E s := by
  obtain ⟨gr, ⟨kvs, k, e, ey, l⟩ | ⟨xs, b, t, e, ey, hk, hr, hx, l⟩ | ⟨b, t, e, ey, hk, hr, l⟩⟩ := g
  · subst l
    exact d_in (by omega) I (.inl ⟨kvs, k, e, ey, rfl⟩) ry h
  · subst ey
    cases (show u = Value.ref b from ry)
    obtain ⟨h1, h2, ys, rel, dd⟩ := keyed_at I gr e hx
    refine wpAny_in_heap (room8 hu) (key1_is I gr hk hr) h1 dd ?_
    have e2 : (atKey ys (nk t)).isSome = o.isSome := by
      rw [l, (look_rel (nk t) rel).isSome_eq, Option.isSome_map]
    rw [e2]
    exact h _ (I.tok _)
  · subst ey
    cases (show u = Value.ref b from ry)
    obtain ⟨h1, dd⟩ := empty_at I e
    refine wpAny_in_heap (room8 hu) (key1_is I gr hk hr) h1 dd ?_
    rw [l] at h
    exact h _ (I.tok _)
theorem zd_notIn {Q : Value → Shared → Prop} (hu : A.units + 65 < cLine) (I : Inv X pins σ H s) (g : DLook (zx X) Sh H a y o) (ry : RelV y u) (h : ∀ s', Inv X pins σ H s' → Q (.bool (!o.isSome)) s') :
    wpAny (model X.prog X.w) A (compareOp .NotIn u (.ref a)) Q E s := by
  obtain ⟨gr, ⟨kvs, k, e, ey, l⟩ | ⟨xs, b, t, e, ey, hk, hr, hx, l⟩ | ⟨b, t, e, ey, hk, hr, l⟩⟩ := g
  · subst l
    exact d_notIn (by omega) I (.inl ⟨kvs, k, e, ey, rfl⟩) ry h
  · subst ey
    cases (show u = Value.ref b from ry)
    obtain ⟨h1, h2, ys, rel, dd⟩ := keyed_at I gr e hx
    show wpAny _ _ (do return .bool (!(← contains (.ref a) (.ref b)))) Q E s
    refine wpAny_bind (wpAny_contains_heap (room8 hu) (key1_is I gr hk hr) h1 dd (wpAny_pure ?_))
    have e2 : (atKey ys (nk t)).isSome = o.isSome := by
      rw [l, (look_rel (nk t) rel).isSome_eq, Option.isSome_map]
    rw [e2]
    exact h _ (I.tok _)
  · subst ey
    cases (show u = Value.ref b from ry)
    obtain ⟨h1, dd⟩ := empty_at I e
    show wpAny _ _ (do return .bool (!(← contains (.ref a) (.ref b)))) Q E s
    refine wpAny_bind (wpAny_contains_heap (room8 hu) (key1_is I gr hk hr) h1 dd (wpAny_pure ?_))
    rw [l] at h
    exact h _ (I.tok _)
/-- x[y] -/
theorem zd_getItem {Q : Value → Shared → Prop} (hu : A.units + 65 < cLine) (I : Inv X pins σ H s) (g : DLook (zx X) Sh H a y (some v)) (ry : RelV y u) (h : ∀ w' s', Inv X pins σ H s' → RelV v w' → Q w' s') :
    wpAny (model X.prog X.w) A (getItem (.ref a) u) Q E s := by
  obtain ⟨gr, ⟨kvs, k, e, ey, l⟩ | ⟨xs, b, t, e, ey, hk, hr, hx, l⟩ | ⟨b, t, e, ey, hk, hr, l⟩⟩ := g
  · exact d_getItem (by omega) I (.inl ⟨kvs, k, e, ey, l⟩) ry h
  · subst ey
    cases (show u = Value.ref b from ry)
    obtain ⟨h1, h2, ys, rel, dd⟩ := keyed_at I gr e hx
    obtain ⟨w', hw, rw'⟩ := RelO.some_of (v := v) (o := (atKey ys (nk t)).map (·.2)) (by rw [l]; exact look_rel (nk t) rel)
    obtain ⟨p, hp, hp2⟩ := Option.map_eq_some_iff.mp hw
    refine wpAny_getItem_heap (room8 hu) (key1_is I gr hk hr) dd hp ?_
    rw [hp2]
    exact h w' _ (I.tok _) rw'
  · cases l
/-- x.get(y, d) -/
theorem zd_get2 {Q : Value → Shared → Prop} (hu : A.units + 65 < cLine) (I : Inv X pins σ H s) (g : DLook (zx X) Sh H a y o) (ry : RelV y u) (rd : RelV d r) (h : ∀ w' s', Inv X pins σ H s' → RelV (o.getD d) w' → Q w' s') :
    wpAny (model X.prog X.w) A (call (.builtin "dict.get") [.ref a, u, r]) Q E s := by
  obtain ⟨gr, ⟨kvs, k, e, ey, l⟩ | ⟨xs, b, t, e, ey, hk, hr, hx, l⟩ | ⟨b, t, e, ey, hk, hr, l⟩⟩ := g
  · exact d_get2 (by omega) I (.inl ⟨kvs, k, e, ey, l⟩) ry rd h
  · subst ey
    cases (show u = Value.ref b from ry)
    obtain ⟨h1, h2, ys, rel, dd⟩ := keyed_at I gr e hx
    refine call_meetsIn PySem.F.slot_dict_get dd.typeIs PySem.F.entry_dict_get (PySem.F.args_dict_get_3 _ _ _) (meetsH_dict_get_default (nestedKind X.prog X.w) a b h1 r) ⟨room8 hu, nk t, ys, key1_is I gr hk hr, dd, h _ _ (I.tok _) ?_⟩
    rw [l]
    exact (look_rel (nk t) rel).getD rd
  · subst ey
    cases (show u = Value.ref b from ry)
    obtain ⟨h1, dd⟩ := empty_at I e
    refine call_meetsIn PySem.F.slot_dict_get dd.typeIs PySem.F.entry_dict_get (PySem.F.args_dict_get_3 _ _ _) (meetsH_dict_get_default (nestedKind X.prog X.w) a b h1 r) ⟨room8 hu, nk t, [], key1_is I gr hk hr, dd, h _ _ (I.tok _) ?_⟩
    rw [l]
    exact rd
end
end Vi

set_option autoImplicit false
set_option Elab.async false
set_option linter.all false
set_option maxRecDepth 100000
/-! VI: subscripts, slices, in. -/
namespace Vi
open PySem PySem.Spec PyProof.Rows L2
section
variable {X : Cx} {c : Cfg} {xp : Xp (zx X)} {e : E} {a b d : Expr} {pos : Pos}
theorem ixn_eq (n : Nat) (i : Int) : ixn n i = ixN n i := rfl
theorem atx_eq {α : Type} (l : List α) (i : Int) : atx l i = atI l i := rfl
theorem RpL.atI {Z : Rw} {Sh : Hp} {vs : List V} {ts : List T} (r : RpL Z Sh vs ts) {i : Int} {t : T} (h : atx ts i = some t) : ∃ v, atI vs i = some v ∧ Rp Z Sh v t := by
  rw [atx_eq] at h
  unfold L2.atI at h ⊢
  rw [r.1]
  obtain ⟨j, h1, h2⟩ := Option.bind_eq_some_iff.mp h
  obtain ⟨v, h3, h4⟩ := r.get h2
  exact ⟨v, by rw [h1]; exact h3, h4⟩
/-! ### what a dict has -/
/-- a dict's value: a shared one, or a list that is the dict's own -/
theorem valV_of {kvs : List (Key × V)} {l : List (T × T)} (k : Key) (hk : kvs.map (fun p => keyT p.1) = l.map (·.1)) :
    (valV kvs k = none ∧ dget l (keyT k) = none) ∨ ∃ (i : Nat) (p : Key × V) (q : T × T), kvs[i]? = some p ∧ l[i]? = some q ∧ valV kvs k = some p.2 ∧ dget l (keyT k) = some q.2 := by
  induction kvs generalizing l with
  | nil =>
    cases l with
    | nil => exact .inl ⟨rfl, rfl⟩
    | cons _ _ => simp at hk
  | cons p kvs ih =>
    cases l with
    | nil => simp at hk
    | cons q l =>
      simp only [List.map_cons, List.cons.injEq] at hk
      have e1 : keq q.1 (keyT k) = decide (p.1 = k) := by rw [← hk.1, keq_keyT]
      by_cases z : p.1 = k
      · refine .inr ⟨0, p, q, rfl, rfl, ?_, ?_⟩
        · simp [valV, z]
        · simp [dget, e1, z]
      · have e2 : valV (p :: kvs) k = valV kvs k := by simp [valV, z]
        have e3 : dget (q :: l) (keyT k) = dget l (keyT k) := by simp [dget, e1, z]
        rcases ih hk.2 with ⟨h1, h2⟩ | ⟨i, p', q', h1, h2, h3, h4⟩
        · exact .inl ⟨e2.trans h1, e3.trans h2⟩
        · exact .inr ⟨i + 1, p', q', h1, h2, e2.trans h3, e3.trans h4⟩
theorem lookK_of {xs : List (NestedKey × Addr × V)} {l : List (T × T)} {k : T} (hk : xs.map (·.1) = l.map (fun q => nk q.1)) (hp : ∀ q ∈ l, kind? q.1 = some true) (h : kind? k = some true) :
    (lookK xs (nk k) = none ∧ dget l k = none) ∨ ∃ (i : Nat) (p : NestedKey × Addr × V) (q : T × T), xs[i]? = some p ∧ l[i]? = some q ∧ lookK xs (nk k) = some p.2.2 ∧ dget l k = some q.2 := by
  induction xs generalizing l with
  | nil =>
    cases l with
    | nil => exact .inl ⟨rfl, rfl⟩
    | cons _ _ => simp at hk
  | cons p xs ih =>
    cases l with
    | nil => simp at hk
    | cons q l =>
      simp only [List.map_cons, List.cons.injEq] at hk
      have e1 : keq q.1 k = decide (p.1 = nk k) := by
        obtain ⟨l1, e1, p1⟩ := key1_tup (hp q List.mem_cons_self)
        obtain ⟨l2, e2, p2⟩ := key1_tup h
        rw [hk.1, e1, e2]
        exact keq_nk 8 8 _ _ (by simpa [isPart] using p1) (by simpa [isPart] using p2)
      by_cases z : p.1 = nk k
      · refine .inr ⟨0, p, q, rfl, rfl, ?_, ?_⟩
        · simp [lookK, z]
        · simp [dget, e1, z]
      · have e2 : lookK (p :: xs) (nk k) = lookK xs (nk k) := by simp [lookK, z]
        have e3 : dget (q :: l) k = dget l k := by simp [dget, e1, z]
        rcases ih hk.2 (fun q hq => hp q (List.mem_cons_of_mem _ hq)) with ⟨h1, h2⟩ | ⟨i, p', q', h1, h2, h3, h4⟩
        · exact .inl ⟨e2.trans h1, e3.trans h2⟩
        · exact .inr ⟨i + 1, p', q', h1, h2, e2.trans h3, e3.trans h4⟩
variable {Z : Rw} {Sh H : Hp} {F : List Addr} {ms : List (Nat × V)} {σ : L2.St} {env : Env} {A B : List Addr}
/-- what one may know of a value within a dict -/
theorem VRep.at' {vs : List V} {ts : List T} (r : VRep Z Sh H vs ts B) {i : Nat} {v : V} {t : T} (h1 : vs[i]? = some v) (h2 : ts[i]? = some t) : Rp Z Sh v (sh1 t) := by
  induction r generalizing i with
  | nil => simp at h1
  | sh h _ ih =>
    cases i with
    | zero =>
      simp at h1 h2; subst h1; subst h2
      cases h with
      | non => exact .non
      | und => exact .und _
      | bl => exact .bl _
      | int => exact .int _
      | str => exact .str _ ‹_›
      | tup a b c => exact .tup a b c
      | lst a b c => exact .lst a b c
      | dic0 a b c d => exact .dic0 a b c d
      | dic1 a b c d e f => exact .dic1 a b c d e f
    | succ i => exact ih (by simpa using h1) (by simpa using h2)
  | own h n q _ ih =>
    cases i with
    | zero => simp at h1 h2; subst h1; subst h2; exact .und _
    | succ i => exact ih (by simpa using h1) (by simpa using h2)
theorem keyT_of0 {k : T} {v : V} (h : kind? k = some false) (r : Rp Z Sh v k) : ∃ key, keyT key = k ∧ v = kV key := by
  obtain ⟨key, e, hv⟩ := kind0_key h
  exact ⟨key, e, hv r⟩
theorem kindD_some {l : List (T × T)} {k : T} (h : kindD l k = true) : ∃ b, kind? k = some b ∧ (l = [] ∨ ∃ p r, l = p :: r ∧ kind? p.1 = some b) := by
  unfold kindD at h
  split at h
  · cases h
  · rename_i b hb
    refine ⟨b, hb, ?_⟩
    cases l with
    | nil => exact .inl rfl
    | cons p r => exact .inr ⟨p, r, rfl, by simpa using h⟩
theorem keyT_kind (k : Key) : kind? (keyT k) = some false := by cases k <;> rfl
theorem ORepKey {v : V} {t : T} {A : List Addr} {b : Bool} (r : Rep Z Sh H v t A) (h : kind? t = some b) : Rp Z Sh v t := by
  refine (r.shared ?_).1
  cases t <;> first | rfl | (cases h; done)
/-- a look into a dict -/
theorem dlook {x y : V} {o : Bool} {l : List (T × T)} {k : T} (s : SR Z Sh F ms σ H env) (rx : Rep Z Sh H x (.dic o l) A) (ry : Rep Z Sh H y k B) (hk : kindD l k = true) :
    ∃ a ov, x = .ref a ∧ DLook Z Sh H a y ov ∧ ((ov = none ∧ dget l k = none) ∨ ∃ v t, ov = some v ∧ dget l k = some t ∧ Rp Z Sh v (sh1 t)) := by
  have g : Grow Sh H := s.sub
  obtain ⟨b, hb, hl⟩ := kindD_some hk
  have ry := ORepKey ry hb
  -- the two kinds of dict, by the heap's part that shows them
  have main0 : ∀ (a : Addr) (kvs : List (Key × V)), Rd H a (.dK kvs) → kvs.map (fun p => keyT p.1) = l.map (·.1) → (∀ (i : Nat) (p : Key × V) (q : T × T), kvs[i]? = some p → l[i]? = some q → Rp Z Sh p.2 (sh1 q.2)) →
      ∃ ov, DLook Z Sh H a y ov ∧ ((ov = none ∧ dget l k = none) ∨ ∃ v t, ov = some v ∧ dget l k = some t ∧ Rp Z Sh v (sh1 t)) := by
    intro a kvs hr hkk hs
    cases b with
    | false =>
      obtain ⟨key, e, hv⟩ := keyT_of0 hb ry
      subst e
      refine ⟨valV kvs key, ⟨g, .inl ⟨kvs, key, hr, hv, rfl⟩⟩, ?_⟩
      rcases valV_of key hkk with ⟨h1, h2⟩ | ⟨i, p, q, h1, h2, h3, h4⟩
      · exact .inl ⟨h1, h2⟩
      · exact .inr ⟨p.2, q.2, h3, h4, hs i p q h1 h2⟩
    | true =>
      have hn : l = [] := by
        rcases hl with hl | ⟨p, r, rfl, hp⟩
        · exact hl
        · cases kvs with
          | nil => simp at hkk
          | cons q kvs =>
            simp only [List.map_cons, List.cons.injEq] at hkk
            rw [← hkk.1, keyT_kind] at hp; cases hp
      subst hn
      have : kvs = [] := by cases kvs with
        | nil => rfl
        | cons _ _ => simp at hkk
      subst this
      obtain ⟨b', e⟩ := key1_ref hb ry
      subst e
      exact ⟨none, ⟨g, .inr (.inr ⟨b', k, hr, rfl, hb, ry, rfl⟩)⟩, .inl ⟨rfl, rfl⟩⟩
  have main1 : ∀ (a : Addr) (xs : List (NestedKey × Addr × V)), Rd H a (keyedO Z.P Z.w a xs) → xs ≠ [] ∨ b = true → xs.map (·.1) = l.map (fun q => nk q.1) → (∀ q ∈ l, kind? q.1 = some true) →
      (∀ (i : Nat) (p : NestedKey × Addr × V) (q : T × T), xs[i]? = some p → l[i]? = some q → Rp Z Sh (.ref p.2.1) q.1) →
      (∀ (i : Nat) (p : NestedKey × Addr × V) (q : T × T), xs[i]? = some p → l[i]? = some q → Rp Z Sh p.2.2 (sh1 q.2)) →
      ∃ ov, DLook Z Sh H a y ov ∧ ((ov = none ∧ dget l k = none) ∨ ∃ v t, ov = some v ∧ dget l k = some t ∧ Rp Z Sh v (sh1 t)) := by
    intro a xs hr hne hkk hp hr2 hs
    have hb1 : b = true := by
      rcases hne with hne | hne
      · rcases hl with rfl | ⟨p, r, rfl, hq⟩
        · cases xs with
          | nil => exact absurd rfl hne
          | cons _ _ => simp at hkk
        · have := hp p List.mem_cons_self
          rw [hq] at this; cases this; rfl
      · exact hne
    subst hb1
    obtain ⟨b', e⟩ := key1_ref hb ry
    subst e
    refine ⟨lookK xs (nk k), ⟨g, .inr (.inl ⟨xs, b', k, hr, rfl, hb, ry, fun p hpx => ?_, rfl⟩)⟩, ?_⟩
    · obtain ⟨i, hi⟩ := List.getElem?_of_mem hpx
      have hlen : xs.length = l.length := by have := congrArg List.length hkk; simpa using this
      obtain ⟨hi', _⟩ := List.getElem?_eq_some_iff.mp hi
      have hq : l[i]? = some l[i] := List.getElem?_eq_getElem (by omega)
      have e : nk (l[i]).1 = p.1 := by
        have := congrArg (fun z => z[i]?) hkk
        simp only [List.getElem?_map, hi, hq] at this
        exact (Option.some.inj this).symm
      exact ⟨_, hp _ (List.mem_of_getElem? hq), e, hr2 i p _ hi hq⟩
    · rcases lookK_of hkk hp hb with ⟨h1, h2⟩ | ⟨i, p, q, h1, h2, h3, h4⟩
      · exact .inl ⟨h1, h2⟩
      · exact .inr ⟨p.2.2, q.2, h3, h4, hs i p q h1 h2⟩
  have shw : ∀ {v : V} {t : T}, Rp Z Sh v t → Rp Z Sh v (sh1 t) := fun {v t} h => by
    have := VRep.at' (H := H) (B := []) (VRep.ofRpL (RpL.nil.cons h)) (i := 0) rfl rfl
    exact this
  cases rx with
  | sh r =>
    cases r with
    | dic0 h hlen hkk hs =>
      obtain ⟨ov, h1, h2⟩ := main0 _ _ (.inr ⟨_, s.sub _ _ h⟩) hkk fun i p q a b => shw (hs i p q a b)
      exact ⟨_, ov, rfl, h1, h2⟩
    | @dic1 a od xs l' h hlen hkk hp hr hs =>
      obtain ⟨ov, h1, h2⟩ := main1 _ _ (.inr ⟨_, s.sub _ _ h⟩) (.inl fun z => hp.1 (by subst z; exact (List.length_eq_zero_iff.mp hlen.symm))) hkk hp.2 hr fun i p q a b => shw (hs i p q a b)
      exact ⟨_, ov, rfl, h1, h2⟩
  | dic0 h n hkk hs =>
    obtain ⟨ov, h1, h2⟩ := main0 _ _ (.inl h) hkk fun i p q a b => hs.at' (by rw [List.getElem?_map, a]; rfl) (by rw [List.getElem?_map, b]; rfl)
    exact ⟨_, ov, rfl, h1, h2⟩
  | @dic1 a xs l' B' h n hkk hp hr hs =>
    obtain ⟨ov, h1, h2⟩ := main1 _ _ (.inl h) (.inl fun z => hp.1 (by subst z; simpa using hkk)) hkk hp.2 hr fun i p q a b => hs.at' (by rw [List.getElem?_map, a]; rfl) (by rw [List.getElem?_map, b]; rfl)
    exact ⟨_, ov, rfl, h1, h2⟩
end
end Vi

set_option autoImplicit false
set_option Elab.async false
set_option linter.all false
set_option maxRecDepth 100000
/-! VI: subscripts, slices, in. -/
namespace Vi
open PySem PySem.Spec PyProof.Rows L2
section
variable {X : Cx} {c : Cfg} {xp : Xp (zx X)} {e : E} {a b d : Expr} {pos : Pos}
def rIxZ (Z : Rw) : R2 := fun x y H Q => ∃ Sh a v, x = .ref a ∧ DLook Z Sh H a y (some v) ∧ Q v H
theorem DLook.typeIs {pins : List (Addr × Obj)} {s : Shared} {σ : L2.St} {Sh H : Hp} {a : Addr} {y : V} {o : Option V} (I : Inv X pins σ H s) (g : DLook (zx X) Sh H a y o) : s.TypeIs (.ref a) "dict" := by
  obtain ⟨gr, ⟨kvs, k, e, ey, l⟩ | ⟨xs, b, t, e, ey, hk, hr, hx, l⟩ | ⟨b, t, e, ey, hk, hr, l⟩⟩ := g
  · obtain ⟨_, _, vs, r, dd⟩ := dk_rd I.hok e
    exact dd.typeIs
  · obtain ⟨h1, h2, ys, rel, dd⟩ := keyed_at I gr e hx
    exact dd.typeIs
  · obtain ⟨h1, dd⟩ := empty_at I e
    exact dd.typeIs
theorem ix_D (hu : X.A.units + 65 < cLine) : IxR X (rIxZ (zx X)) := fun value slice pins s σ H x y v u Q I rx ry ⟨Sh, a, w, e, g, q⟩ hs => by
  subst e
  cases (show v = Value.ref a from rx)
  exact tail_any (g.typeIs I) slot_dict_getitem.lookup (zd_getItem hu I g ry fun w' s' I' rw => ⟨w, H, I', rw, q⟩) hs
def rIxA (Z : Rw) : R2 := fun x y H Q => rIx Z.K x y H Q ∨ rIxZ Z x y H Q
theorem ix_A (hu : X.A.units + 65 < cLine) : IxR X (rIxA (zx X)) := IxR.or ix_seq (ix_D hu)
theorem mem_of_atx {α : Type} {l : List α} {i : Int} {x : α} (h : atx l i = some x) : x ∈ l := by
  obtain ⟨j, _, h2⟩ := Option.bind_eq_some_iff.mp h
  exact List.mem_of_getElem? h2
theorem okS_one {ch : Nat} (h : ch < 1114112) : okS [ch] := ⟨by show 1 ≤ 16777216; omega, fun x hx => by simp at hx; omega⟩
theorem ok_idx {Z : Rw} : Ok2 Z (rIxA Z) idxT := fun Sh F ms σ H env x y ta tb A B t Q s rx ry hf fin => by
  have hl := line_eq
  cases ta with
  | tup l =>
    cases tb with
    | int i =>
      cases ry.intI
      obtain ⟨p, vs, rfl, q, r, _⟩ := rx.tupI s
      obtain ⟨v, h1, h2⟩ := r.atI hf
      exact .inl (.inr (.inl ⟨p, vs, i, v, rfl, rfl, q, h1, fin.sh s h2⟩))
    | _ => cases hf
  | lst o l =>
    cases tb with
    | int i =>
      cases ry.intI
      obtain ⟨p, vs, rfl, q, r⟩ := rx.lstI s
      obtain ⟨v, h1, h2⟩ := r.atI hf
      exact .inl (.inl ⟨p, vs, i, v, rfl, rfl, Rd.sq q, h1, fin.sh s h2⟩)
    | _ => cases hf
  | str z =>
    cases tb with
    | int i =>
      cases ry.intI
      obtain ⟨rfl, o⟩ := rx.strI
      obtain ⟨ch, h1, rfl⟩ := Option.map_eq_some_iff.mp hf
      refine .inl (.inr (.inr ⟨_, i, ch, rfl, rfl, by rw [sOf_length]; have := o.1; omega, by rw [sOf_cps]; exact h1, fin.sh s ?_⟩))
      exact .str [ch] (okS_one (o.2 ch (mem_of_atx h1)))
    | _ => cases hf
  | dic o l =>
    have hf : (if kindD l tb then (dget l tb).map sh1 else none) = some t := by cases tb <;> exact hf
    by_cases hk : kindD l tb = true
    · rw [if_pos hk] at hf
      obtain ⟨u, hu, rfl⟩ := Option.map_eq_some_iff.mp hf
      obtain ⟨a, ov, rfl, g, h | ⟨v, t, rfl, h2, h3⟩⟩ := dlook s rx ry hk
      · rw [h.2] at hu; cases hu
      · rw [h2] at hu; cases hu
        exact .inr ⟨Sh, a, v, rfl, g, fin.sh s h3⟩
    · rw [if_neg hk] at hf; cases hf
  | _ => cases tb <;> cases hf
theorem se_idx {ea eb : E} (hu : X.A.units + 65 < cLine) (ha : SE X c xp ea a) (hb : SE X c xp eb b) (hs : PlainIx b) : SE X c xp (.idx ea eb) (.Subscript a b pos) :=
  .plain rfl (peI (pe_ix (ix_A hu) ha.o hb.o hs) (bin_imp ok_idx)) (fun _ => rfl)

/-! ### slices -/
def rSlZ (K : PySem.W.Frag) : V → Option Int → Option Int → Hp → VK → Prop := fun x lo hi H Q => rSlS x lo hi H Q ∨ (rSlL K x lo hi H Q ∨ rSlA K x lo hi H Q)
theorem sl_Z : SlR X (rSlZ X.K) := SlR.or sl_str (SlR.or sl_list sl_tupA)
/-- a part of a slice -/
def rOp (Z : Rw) (xp : Xp Z) (m : M (Option Int)) : TO := fun σ H Q => ∃ Sh F ms env, SR Z Sh F ms σ H env ∧
  Out (m env) (fun o env' => ∀ H' Sh', SR Z Sh' F ms σ H' env' → Aft Sh F H Sh' H' → Q o H') (xp.p Sh F ms H)
theorem poI {e : Option Expr} {t t' : TO} (h : PO X e t) (w : ∀ σ H Q, t' σ H Q → t σ H Q) : PO X e t' := ⟨fun pins s σ H Q I q => h.run pins s σ H Q I (w σ H Q q)⟩
theorem so_non : PO X none (rOp (zx X) xp (evo c .non)) := poI po_none fun σ H Q ⟨Sh, F, ms, env, sr, out⟩ => (show Q none H from (show Out (R.ok none env) _ _ from out) H Sh sr Aft.refl)
theorem so_som {ea : E} (h : SE X c xp ea a) : PO X (some a) (rOp (zx X) xp (evo c (.som ea))) := poI (po_some (pe_strong h)) fun σ H Q ⟨Sh, F, ms, env, sr, out⟩ => by
  have out : Out ((strong (isRd ea) (ev c ea) env).bind fun t e => match t with
    | .int i => R.ok (some i) e
    | _ => .no) _ _ := out
  refine ⟨Sh, F, ms, env, sr, out.bind.imp (fun t e1 h1 v H1 Sh1 A s1 r1 a1 => ?_) fun _ _ _ x => x⟩
  cases t with
  | int i => exact ⟨i, r1.intI, (show Out (R.ok (some i) e1) _ _ from h1) H1 Sh1 s1.less a1⟩
  | _ => exact h1.elim
theorem six_eq (n d : Nat) (o : Option Int) : six n d o = HT.sIx n d o := by
  cases o with
  | none => rfl
  | some i =>
    unfold six HT.sIx
    by_cases h : i < 0
    · simp only [h, if_true]; omega
    · simp only [h, if_false]; omega
theorem cut_eq {α : Type} (l : List α) (lo hi : Option Int) : cut l lo hi = (l.drop (HT.sIx l.length 0 lo)).take (HT.sIx l.length l.length hi - HT.sIx l.length 0 lo) := by
  unfold cut
  rw [six_eq, six_eq]
theorem RpL.cut {Z : Rw} {Sh : Hp} {vs : List V} {ts : List T} (r : RpL Z Sh vs ts) (lo hi : Option Int) : RpL Z Sh (cutV vs lo hi) (cut ts lo hi) := by
  rw [cut_eq, ← r.1]
  exact (r.drop _).take _
theorem cut_all {α : Type} (l : List α) (lo hi : Option Int) (h : HT.sIx l.length 0 lo = 0 ∧ HT.sIx l.length l.length hi = l.length) : cut l lo hi = l := by
  rw [cut_eq, h.1, h.2]
  simp
theorem okS_cut {s : List Nat} (h : okS s) (lo hi : Option Int) : okS (cut s lo hi) := ⟨by
  rw [cut_eq, List.length_take, List.length_drop]; have := h.1; omega, fun x hx => h.2 x (List.mem_of_mem_drop (List.mem_of_mem_take hx))⟩
theorem sl_ok {Z : Rw} {Sh : Hp} {F : List Addr} {ms : List (Nat × V)} {σ : L2.St} {H : Hp} {env : Env} {x : V} {ta t : T} {A : List Addr} {lo hi : Option Int} {Q : VK} (s : SR Z Sh F ms σ H env) (rx : Rep Z Sh H x ta A) (hf : sliT ta lo hi = some t) (fin : Fin Z Sh F ms σ H env t Q) : rSlZ Z.K x lo hi H Q := by
  have hl := line_eq
  cases ta with
  | str z =>
    obtain ⟨rfl, o⟩ := rx.strI
    cases hf
    refine .inl ⟨_, rfl, by rw [sOf_length]; have := o.1; omega, ?_⟩
    have e : cutS (sOf z) lo hi = sOf (cut z lo hi) := by
      unfold cutS
      rw [cut_eq]
      have e1 : (sOf z).length = z.length := sOf_length z
      have e2 : (sOf z).cps.toList = z := sOf_cps z
      rw [e1, e2]
      rfl
    rw [e]
    exact fin.sh s (.str _ (okS_cut o lo hi))
  | tup l =>
    obtain ⟨p, vs, rfl, q, r, q2⟩ := rx.tupI s
    cases hf
    refine .inr (.inr ⟨p, vs, rfl, q, fun hz => ?_, fun _ p hp => fin.newT s (r.cut lo hi) hp⟩)
    rw [r.1] at hz
    have e := cut_all l lo hi hz
    refine fin.sh s ?_
    rw [e]
    exact .tup q2 r.1 r.2
  | lst o l =>
    obtain ⟨p, vs, rfl, q, r⟩ := rx.lstI s
    cases hf
    exact .inr (.inl ⟨p, vs, rfl, Rd.sq q, fun p hp => fin.newL s (r.cut lo hi) hp⟩)
  | _ => cases hf
theorem se_sli {ea : E} {lo hi : Eo} {l u : Option Expr} {p2 : Pos} (ha : SE X c xp ea a) (hl : PO X l (rOp (zx X) xp (evo c lo))) (hh : PO X u (rOp (zx X) xp (evo c hi))) : SE X c xp (.sli ea lo hi) (.Subscript a (.Slice l u none p2) pos) := by
  refine .plain rfl (peI (pe_slice sl_Z ha.o hl hh) fun σ H Q ⟨Sh, F, ms, env, sr, out⟩ => ?_) (fun _ => rfl)
  have out : Out ((opd (isRd ea) (ev c ea) env).bind fun o e => (evo c lo e).bind fun l e => (evo c hi e).bind fun h e => fin1 o (fun t => sliT t l h) e) _ _ := out
  refine ⟨Sh, F, ms, env, sr, out.bind.imp (fun o e1 h1 v1 H1 Sh1 A s1 r1 a1 => ?_) fun _ _ _ x => x⟩
  refine ⟨Sh1, A ++ F, ms, e1, s1, h1.bind.imp (fun ol e2 h2 H2 Sh2 s2 a2 => ?_) fun _ _ _ x => xp.mono A a1 x⟩
  have a12 : Aft Sh F H Sh2 H2 := a1.trans (a2.less fun x hx => List.mem_append_right _ hx)
  refine ⟨Sh2, A ++ F, ms, e2, s2, h2.bind.imp (fun oh e3 h3 H3 Sh3 s3 a3 => ?_) fun _ _ _ x => xp.mono A a12 x⟩
  obtain ⟨ta, t, g1, hf, fin⟩ := out_fin1 h3
  have q1 := r1.stay (a2.trans a3) (fun x hx => List.mem_append_left _ hx) (fun x hx => (s3.fr.2 x hx).1)
  obtain ⟨A', w⟩ := q1.fin s3.less g1
  exact sl_ok s3.less w hf fun v H' Sh' C s4 r4 a4 => fin v H' Sh' C s4 r4 ((a12.trans (a3.less fun x hx => List.mem_append_right _ hx)).trans a4)
end
end Vi

set_option autoImplicit false
set_option Elab.async false
set_option linter.all false
set_option maxRecDepth 100000
/-! VI: in. -/
namespace Vi
open PySem PySem.Spec PyProof.Rows L2
theorem preS_iff (x s : List Nat) : preS x s = (s.take x.length == x) := by
  induction x generalizing s with
  | nil => cases s <;> simp [preS]
  | cons a r ih =>
    cases s with
    | nil => simp [preS]
    | cons b q =>
      rw [preS, ih, List.length_cons, List.take_succ_cons]
      rw [Bool.eq_iff_iff]
      simp only [Bool.and_eq_true, beq_iff_eq, List.cons.injEq]
      constructor
      · rintro ⟨h1, h2⟩; exact ⟨h1.symm, h2⟩
      · rintro ⟨h1, h2⟩; exact ⟨h1.symm, h2⟩
theorem subS_iff (x s : List Nat) : subS x s = true ↔ ∃ i, i + x.length ≤ s.length ∧ (s.drop i).take x.length = x := by
  induction s with
  | nil =>
    cases x with
    | nil => simp [subS]
    | cons a r => simp [subS]
  | cons b q ih =>
    rw [subS, Bool.or_eq_true, ih, preS_iff, beq_iff_eq]
    constructor
    · rintro (h | ⟨i, h1, h2⟩)
      · refine ⟨0, ?_, h⟩
        have := congrArg List.length h
        rw [List.length_take] at this
        omega
      · exact ⟨i + 1, by simp; omega, by simpa using h2⟩
    · rintro ⟨i, h1, h2⟩
      cases i with
      | zero => exact .inl h2
      | succ i => exact .inr ⟨i, by simp at h1; omega, by simpa using h2⟩
theorem occ_sub (x s : List Nat) : (!(Builtin.Str.occurrences (sOf s) (sOf x) 0 (sOf s).length 1).isEmpty) = subS x s := by
  rw [Bool.eq_iff_iff, StrLaws.found_iff, subS_iff]
  constructor
  · rintro ⟨i, h1, h2⟩
    rw [StrLaws.subAt_eq, sOf_cps, sOf_cps, sOf_length] at h2
    rw [sOf_length, sOf_length] at h1
    exact ⟨i, h1, by simpa using h2⟩
  · rintro ⟨i, h1, h2⟩
    refine ⟨i, by rw [sOf_length, sOf_length]; exact h1, ?_⟩
    rw [StrLaws.subAt_eq, sOf_cps, sOf_cps, sOf_length, h2]
    simp
theorem subS_one (c : Nat) (s : List Nat) : subS [c] s = s.contains c := by
  induction s with
  | nil => rfl
  | cons b q ih =>
    rw [subS, ih, Bool.eq_iff_iff]
    simp [preS]
section
variable {X : Cx} {c : Cfg} {xp : Xp (zx X)} {e : E} {a b d : Expr} {pos : Pos}
theorem flatV_of {Z : Rw} {Sh : Hp} {v : V} {t : T} (r : Rp Z Sh v t) (h : flat t = true) : flatV v = true := by
  cases r <;> first | rfl | (cases h; done)
theorem eqV_of {Z : Rw} {Sh : Hp} {v w : V} {t u : T} (r : Rp Z Sh v t) (q : Rp Z Sh w u) (h : flat t = true) (h2 : flat u = true) : eqV v w = eqb t u := by
  cases r <;> first | (cases h; done) | (cases q <;> first | (cases h2; done) | rfl | (simp only [L2.eqV, eqb]; exact sOf_beq _ _) | (simp [L2.eqV, eqb]))
theorem inV_of {Z : Rw} {Sh : Hp} {v : V} {t : T} (r : Rp Z Sh v t) (h : flat t = true) : ∀ {vs : List V} {l : List T}, RpL Z Sh vs l → l.all flat = true → vs.all flatV = true ∧ inV v vs = l.any fun y => eqb y t
  | [], [], _, _ => ⟨rfl, rfl⟩
  | [], _ :: _, q, _ => by have := q.1; simp at this
  | _ :: _, [], q, _ => by have := q.1; simp at this
  | w :: vs, u :: l, q, hl => by
    rw [List.all_cons, Bool.and_eq_true] at hl
    obtain ⟨h1, h2⟩ := inV_of r h q.tail hl.2
    refine ⟨by rw [List.all_cons, h1, flatV_of q.head hl.1]; rfl, ?_⟩
    unfold L2.inV at h2 ⊢
    rw [List.any_cons, List.any_cons, h2, eqV_of q.head r hl.1 h]
theorem dats_any {n m : Nat} {t : T} (h : dat n t = true) : ∀ {l : List T}, dats m l = true → ((pds l).any fun z => z.eqv (pd t)) = l.any fun y => eqb y t
  | [], _ => rfl
  | a :: l, hl => by
    have h' : dat m a = true ∧ dats m l = true := by simpa [dats] using hl
    show (PyData.eqv (pd a) (pd t) || (pds l).any _) = _
    rw [dats_any h h'.2, eqv_pd m n a t h'.1 h]
    rfl
/-- x in y, x not in y -/
def rInZ (Z : Rw) (k : Bool) : R2 := fun x y H Q => (∃ i j, x = .str (sOf i) ∧ y = .str (sOf j) ∧ Q (.bl (subS i j == k)) H) ∨ (rIn Z.K (!k) x y H Q ∨
  ((if k then rInD Z.K x y H Q else rNotInD Z.K x y H Q) ∨ ∃ Sh a o, y = .ref a ∧ DLook Z Sh H a x o ∧ Q (.bl (o.isSome == k)) H))
theorem op_inZ (hu : X.A.units + 65 < cLine) : OpR X (compareOp .In) (rInZ (zx X) true) := OpR.or (fun pins s σ H x y v u Q I rx ry ⟨i, j, e1, e2, q⟩ => op_in_str pins s σ H x y v u Q I rx ry ⟨_, _, e1, e2, by rw [occ_sub]; simpa using q⟩)
  (OpR.or op_in_seq (OpR.or (op_inD hu) (fun pins s σ H x y v u Q I rx ry ⟨Sh, a, o, e, g, q⟩ => by
    subst e
    cases (show u = Value.ref a from ry)
    exact zd_in hu I g rx fun s' I' => ⟨.bl o.isSome, H, I', rfl, by simpa using q⟩)))
theorem op_notInZ (hu : X.A.units + 65 < cLine) : OpR X (compareOp .NotIn) (rInZ (zx X) false) := OpR.or (fun pins s σ H x y v u Q I rx ry ⟨i, j, e1, e2, q⟩ => op_notIn_str pins s σ H x y v u Q I rx ry ⟨_, _, e1, e2, by rw [occ_sub]; cases h : subS i j <;> simpa [h] using q⟩)
  (OpR.or op_notIn_seq (OpR.or (op_notInD hu) (fun pins s σ H x y v u Q I rx ry ⟨Sh, a, o, e, g, q⟩ => by
    subst e
    cases (show u = Value.ref a from ry)
    exact zd_notIn hu I g rx fun s' I' => ⟨.bl (!o.isSome), H, I', rfl, by cases h : o.isSome <;> simpa [h] using q⟩)))
theorem in_ok {Z : Rw} (k : Bool) {Sh : Hp} {F : List Addr} {ms : List (Nat × V)} {σ : L2.St} {H : Hp} {env : Env} {x y : V} {ta tb : T} {A B : List Addr} {r : Bool} {Q : VK}
    (s : SR Z Sh F ms σ H env) (rx : Rep Z Sh H x ta A) (ry : Rep Z Sh H y tb B) (hf : inT ta tb = some r) (fin : Q (.bl (r == k)) H) : rInZ Z k x y H Q := by
  have seqs : ∀ l p vs, y = .ref p → (SqL Z.K H p vs ∨ SqT Z.K H p vs) → RpL Z Sh vs l → flat ta = true → l.all flat = true → r = l.any (fun z => eqb z ta) → rInZ Z k x y H Q := by
    intro l p vs e q rl h1 h2 h3
    have hx : Rp Z Sh x ta := (rx.shared (by cases ta <;> first | rfl | (cases h1; done))).1
    obtain ⟨g1, g2⟩ := inV_of hx h1 rl h2
    refine .inr (.inl ⟨p, vs, e, q, flatV_of hx h1, g1, ?_⟩)
    rw [g2, ← h3]
    cases k <;> cases r <;> simpa using fin
  unfold inT at hf
  split at hf
  · rename_i ch z
    cases hf
    obtain ⟨rfl, _⟩ := rx.strI
    obtain ⟨rfl, _⟩ := ry.strI
    exact .inl ⟨_, _, rfl, rfl, by rw [subS_one]; exact fin⟩
  · rename_i z w _
    cases hf
    obtain ⟨rfl, _⟩ := rx.strI
    obtain ⟨rfl, _⟩ := ry.strI
    exact .inl ⟨_, _, rfl, rfl, fin⟩
  · rename_i l
    split at hf
    · rename_i h
      rw [Bool.and_eq_true] at h
      cases hf
      obtain ⟨p, vs, e, q, rl, _⟩ := ry.tupI s
      exact seqs l p vs e (.inr q) rl h.1 h.2 rfl
    · cases hf
  · rename_i o l
    split at hf
    · rename_i h
      rw [Bool.and_eq_true] at h
      cases hf
      obtain ⟨p, vs, rfl, q, rl⟩ := ry.lstI s
      have d1 := dpO_of s (n := 59) h.1 rx
      have d2 : Dp Z.K H (.ref p) (.list (pds l)) := .lst q (dps_of s 60 l vs h.2 rl)
      have s1 := shaped_of (n := 59) h.1 rx (by omega)
      have s2 : SeqAt.shaped (PyData.list (pds l)) = true := shaped_of (n := 60) (t := .lst o l) (by simpa [dat] using h.2) ry (by omega)
      refine .inr (.inr (.inl ?_))
      cases k with
      | true => exact ⟨_, _, d1, d2, s1, s2, by rw [dats_any h.1 h.2]; simpa using fin⟩
      | false => exact ⟨_, _, d1, d2, s1, s2, by rw [dats_any h.1 h.2]; cases h9 : (l.any fun y => eqb y ta) <;> simpa [h9] using fin⟩
    · cases hf
  · rename_i o l
    split at hf
    · rename_i h
      cases hf
      obtain ⟨a, ov, rfl, g, h2⟩ := dlook s ry rx h
      refine .inr (.inr (.inr ⟨Sh, a, ov, rfl, g, ?_⟩))
      rcases h2 with ⟨rfl, h2⟩ | ⟨v, t, rfl, h2, _⟩ <;> (rw [h2] at fin; exact fin)
    · cases hf
  · cases hf
theorem ok_inn {Z : Rw} : Ok2 Z (rInZ Z true) (fun x y => (cmpT .inn x y).map .bl) := fun Sh F ms σ H env x y ta tb A B t Q s rx ry hf fin => by
  obtain ⟨r, h1, rfl⟩ := Option.map_eq_some_iff.mp hf
  have h1 : inT ta tb = some r := by cases ta <;> cases tb <;> exact h1
  exact in_ok true s rx ry h1 (by simpa using fin.sh s (.bl r))
theorem ok_nin {Z : Rw} : Ok2 Z (rInZ Z false) (fun x y => (cmpT .nin x y).map .bl) := fun Sh F ms σ H env x y ta tb A B t Q s rx ry hf fin => by
  obtain ⟨r, h1, rfl⟩ := Option.map_eq_some_iff.mp hf
  have h1 : (inT ta tb).map (!·) = some r := by cases ta <;> cases tb <;> exact h1
  obtain ⟨r', h2, rfl⟩ := Option.map_eq_some_iff.mp h1
  exact in_ok false s rx ry h2 (by have := fin.sh s (.bl (!r')); cases r' <;> simpa using this)
end
end Vi

set_option autoImplicit false
set_option Elab.async false
set_option linter.all false
set_option maxRecDepth 100000
/-! VI: built-ins. -/
namespace Vi
open PySem PySem.Spec PyProof.Rows L2
section
variable {X : Cx} {c : Cfg} {xp : Xp (zx X)} {e : E} {a b d : Expr} {pos : Pos}
theorem rO_mono {Z : Rw} {xp : Xp Z} {m : M O} {σ : L2.St} {H : Hp} {Q Q' : VK} (h : rO Z xp m σ H Q) (w : ∀ v H, Q v H → Q' v H) : rO Z xp m σ H Q' := by
  obtain ⟨Sh, F, ms, env, sr, out⟩ := h
  exact ⟨Sh, F, ms, env, sr, out.imp (fun o e q v H' Sh' A s r a => w _ _ (q v H' Sh' A s r a)) fun _ _ _ x => x⟩
theorem CallR.imp {f : Value} {r r' : List V → Hp → VK → Prop} (h : CallR X f r) (w : ∀ xs H Q, r' xs H Q → r xs H Q) : CallR X f r' := fun pins s σ H xs us Q I rx q => h pins s σ H xs us Q I rx (w xs H Q q)
def one (r : V → Hp → VK → Prop) : List V → Hp → VK → Prop := fun xs H Q => ∃ x, xs = [x] ∧ r x H Q
theorem se_call1 {f : B1} {ea : E} {x : Str} {p : Pos} {r : V → Hp → VK → Prop} (hpe : ∀ {t : TA}, PA X [a] t → PE X (.Call (.Name x p) [a] [] pos) (tCB (one r) t)) (ok : Ok1 (zx X) r (b1T f)) (ha : SE X c xp ea a) (hs : notStar a = true) :
    SE X c xp (.b1 f ea) (.Call (.Name x p) [a] [] pos) :=
  .plain rfl (peI (hpe (pa_cons ha.o pa_nil (star_of hs))) fun σ H Q h => rO_mono (un_imp ok σ H Q h) fun v H q => ⟨v, rfl, q⟩) (fun _ => rfl)
/-- a built-in function's name -/
structure Bf (X : Cx) (x : Str) (id : String) : Prop where
  hg : Gl X x
  hm : X.mg x = none
  hv : bootBuiltins x = some (.builtin id)
  h1 : x ≠ Str.ofString "__name__"
  h2 : (x == Str.ofString "__debug__") = false
structure Bt (X : Cx) (x : Str) (T : String) : Prop where
  hg : Gl X x
  hm : X.mg x = none
  hv : bootBuiltins x = some (.type T)
  h1 : x ≠ Str.ofString "__name__"
  h2 : (x == Str.ofString "__debug__") = false
theorem bf_call {x : Str} {id : String} {p : Pos} {r : List V → Hp → VK → Prop} (B : Bf X x id) (hs : notStar a = true) (h : CallR X (.builtin id) r) {t : TA} (ha : PA X [a] t) : PE X (.Call (.Name x p) [a] [] pos) (tCB r t) :=
  pe_callB h B.hg B.hm B.hv ha B.h1 B.h2 (star_of hs) rfl
theorem bt_call {x : Str} {T : String} {p : Pos} {r : List V → Hp → VK → Prop} (B : Bt X x T) (hs : notStar a = true) (h : CallR X (.type T) r) {t : TA} (ha : PA X [a] t) : PE X (.Call (.Name x p) [a] [] pos) (tCB r t) :=
  pe_callTy h B.hg B.hm B.hv ha B.h1 B.h2 (star_of hs) rfl
variable {Z : Rw} {Sh H : Hp} {F : List Addr} {ms : List (Nat × V)} {σ : L2.St} {env : Env} {A B : List Addr}
/-! ### len -/
def rLen (K : PySem.W.Frag) : V → Hp → VK → Prop := fun x H Q => ∃ n, LenV K x H n ∧ Q (.int n) H
theorem cr_len : CallR X (.builtin "len") (one (rLen X.K)) := CallR.imp call_len fun xs H Q ⟨x, e, n, h1, h2⟩ => ⟨x, n, e, h1, h2⟩
theorem ok_len : Ok1 Z (rLen Z.K) (b1T .len) := fun Sh F ms σ H env x ta A t Q s rx hf fin => by
  have hl := line_eq
  cases ta with
  | str z =>
    obtain ⟨rfl, o⟩ := rx.strI
    have hf : (if z.length ≤ line then some (T.int z.length) else none) = some t := hf
    rw [if_pos o.1] at hf
    cases hf
    exact ⟨z.length, ⟨by rw [sOf_length]; have := o.1; omega, (sOf_length z).symm⟩, fin.sh s (.int _)⟩
  | tup l =>
    obtain ⟨p, vs, rfl, q, r, _⟩ := rx.tupI s
    cases hf
    exact ⟨l.length, .inr ⟨vs, q, r.1.symm⟩, fin.sh s (.int _)⟩
  | lst o l =>
    obtain ⟨p, vs, rfl, q, r⟩ := rx.lstI s
    cases hf
    exact ⟨l.length, .inl ⟨vs, Rd.sq q, r.1.symm⟩, fin.sh s (.int _)⟩
  | _ => cases hf
/-! ### int, abs, bool -/
def rInt1 : V → Hp → VK → Prop := fun x H Q => (∃ i, x = .int i ∧ Q (.int i) H) ∨ (∃ k, x = .bl k ∧ Q (.int (if k then 1 else 0)) H) ∨ ∃ a n, x = .str a ∧ PySem.intText? a = some n ∧ a.length ≤ 640 ∧ Q (.int n) H
theorem cr_int : CallR X (.type "int") (one rInt1) := CallR.imp (CallR.or call_int1 call_int_str) fun xs H Q ⟨x, e, h⟩ => by
  subst e
  rcases h with ⟨i, rfl, h⟩ | ⟨k, rfl, h⟩ | ⟨a, n, rfl, h⟩
  · exact .inl (.inl ⟨i, rfl, h⟩)
  · exact .inl (.inr ⟨k, rfl, h⟩)
  · exact .inr ⟨a, n, rfl, h⟩
theorem intText_dig : ∀ n : _root_.Fin 10, PySem.intText? (sOf [48 + n.val]) = some (n.val : Int) := by decide +kernel
theorem digit_of {s : List Nat} {n : Nat} (h : digit? s = some n) : s = [48 + n] ∧ n < 10 := by
  unfold digit? at h
  split at h
  · rename_i c
    by_cases hc : 48 ≤ c ∧ c ≤ 57
    · rw [if_pos hc] at h; cases h
      refine ⟨?_, by omega⟩
      congr 1; omega
    · rw [if_neg hc] at h; cases h
  · cases h
theorem ok_int : Ok1 Z rInt1 (b1T .int) := fun Sh F ms σ H env x ta A t Q s rx hf fin => by
  cases ta with
  | int i => cases rx.intI; cases hf; exact .inl ⟨i, rfl, fin.sh s (.int _)⟩
  | bl k => cases rx.blI; cases hf; exact .inr (.inl ⟨k, rfl, fin.sh s (.int _)⟩)
  | str z =>
    obtain ⟨rfl, o⟩ := rx.strI
    have hf : (digit? z).map (fun n => T.int (n : Nat)) = some t := hf
    obtain ⟨n, h1, rfl⟩ := Option.map_eq_some_iff.mp hf
    obtain ⟨rfl, hn⟩ := digit_of h1
    exact .inr (.inr ⟨_, n, rfl, intText_dig ⟨n, hn⟩, by rw [sOf_length]; simp, fin.sh s (.int _)⟩)
  | _ => cases hf
/-! ### str -/
theorem call_text_text : CallR X (.type "str") (fun xs H Q => ∃ a, xs = [.str a] ∧ Q (.str a) H) := by
  intro pins s σ H xs us Q I r h
  obtain ⟨a, rfl, q⟩ := h
  obtain ⟨u, rfl, t, rfl⟩ := vals1 r
  exact PySem.P.str_of_str ⟨.str a, H, I, ⟨t, rfl⟩, q⟩
theorem str_dig : ∀ n : _root_.Fin 10, Str.ofString (toString (n.val : Int)) = sOf [48 + n.val] := by decide +kernel
theorem str_digS {i : Int} (h : -1 ≤ i ∧ i ≤ 9) : Str.ofString (toString i) = sOf (digS i) ∧ okS (digS i) ∧ i.natAbs.log2 < 1920 := by
  obtain ⟨h1, h2⟩ := h
  by_cases h0 : i < 0
  · have : i = -1 := by omega
    subst this
    exact ⟨by decide +kernel, ⟨by decide, by decide⟩, by decide +kernel⟩
  · obtain ⟨n, rfl⟩ := Int.eq_ofNat_of_zero_le (by omega : 0 ≤ i)
    have hn : n < 10 := by omega
    have e : digS (n : Int) = [48 + n] := by unfold digS; rw [if_neg h0]; rfl
    rw [e]
    refine ⟨str_dig ⟨n, hn⟩, ⟨(by decide : 1 ≤ line), fun c hc => ?_⟩, ?_⟩
    · rw [List.mem_singleton] at hc; omega
    · have : ((n : Int)).natAbs = n := by simp
      rw [this]
      exact Nat.lt_of_le_of_lt (Nat.log2_le_self n) (by omega)
def rAbs1 : V → Hp → VK → Prop := fun x H Q => ∃ i, x = .int i ∧ Q (.int (if i < 0 then -i else i)) H
theorem cr_abs : CallR X (.builtin "abs") (one rAbs1) := CallR.imp call_abs fun xs H Q ⟨x, e, i, e2, h⟩ => by subst e2; exact ⟨i, e, h⟩
theorem ok_abs : Ok1 Z rAbs1 (b1T .abs) := fun Sh F ms σ H env x ta A t Q s rx hf fin => by
  cases ta with
  | int i => cases rx.intI; cases hf; exact ⟨i, rfl, fin.sh s (.int _)⟩
  | _ => cases hf
def rBool1 : V → Hp → VK → Prop := fun x H Q => ∃ k, x = .bl k ∧ Q (.bl k) H
theorem cr_bool : CallR X (.type "bool") (one rBool1) := CallR.imp call_bool1 fun xs H Q ⟨x, e, i, e2, h⟩ => by subst e2; exact .inr ⟨i, e, h⟩
theorem ok_bool : Ok1 Z rBool1 (b1T .bool) := fun Sh F ms σ H env x ta A t Q s rx hf fin => by
  cases ta with
  | bl k => cases rx.blI; cases hf; exact ⟨k, rfl, fin.sh s (.bl _)⟩
  | _ => cases hf
/-! ### list, tuple, dict -/
def rListZ (K : PySem.W.Frag) : V → Hp → VK → Prop := fun x H Q => (∃ p ys, x = .ref p ∧ (SqL K H p ys ∨ SqT K H p ys) ∧ ∀ l, H l = none → Q (.ref l) (upd H l (.lst ys))) ∨
  (∃ (a : Addr) (kvs : List (Key × V)), x = .ref a ∧ Rd H a (.dK kvs) ∧ ∀ p, H p = none → Q (.ref p) (upd H p (.lst (kvs.map fun kv => kV kv.1)))) ∨
  ∃ z : Str, x = .str z ∧ z.cps.size ≤ sizeLine ∧ ∀ p, H p = none → Q (.ref p) (upd H p (.lst (z.cps.toList.map fun c => V.str ⟨#[c]⟩)))
/-- list(x) of a text -/
theorem call_list_text (hc : X.calm = true) : CallR X (.type "list") (fun xs H Q => ∃ z : Str, xs = [.str z] ∧ z.cps.size ≤ sizeLine ∧ ∀ p, H p = none → Q (.ref p) (upd H p (.lst (z.cps.toList.map fun c => V.str ⟨#[c]⟩)))) := by
  intro pins s σ H xs us Q I r h
  obtain ⟨z, rfl, hz, q⟩ := h
  obtain ⟨u, rfl, t, rfl⟩ := vals1 r
  refine PySem.call_list_str (I.ok.hd hc) z t (fun h' tk acc c' hk e hi => ?_) hz
  refine ⟨.ref s.heap.objs.size, upd H s.heap.objs.size (.lst (z.cps.toList.map fun c => V.str ⟨#[c]⟩)), I.laid hk (Nat.le_refl _) ⟨by rw [List.length_map, Array.length_toList]; exact hz, acc.toList, c', ?_, by rw [Array.toArray_toList]; exact e⟩, rfl, q _ (I.hok.fresh (Nat.le_refl _))⟩
  refine vals_of_idx _ _ (by rw [List.length_map, Array.length_toList, Array.length_toList]; exact hi.1) fun j u hj => ?_
  obtain ⟨c, t', hc, rfl⟩ := hi.2 j u (by rw [← Array.getElem?_toList]; exact hj)
  exact ⟨.str ⟨#[c]⟩, by simp [hc], ⟨_, rfl⟩⟩
theorem cr_list (hc : X.calm = true) : CallR X (.type "list") (one (rListZ X.K)) := CallR.imp (CallR.or call_list_of (CallR.or (call_listD hc) (call_list_text hc))) fun xs H Q ⟨x, e, h⟩ => by
  subst e
  rcases h with ⟨p, ys, rfl, h⟩ | ⟨a, kvs, rfl, h⟩ | ⟨z, rfl, h⟩
  · exact .inl ⟨p, ys, rfl, h⟩
  · exact .inr (.inl ⟨a, kvs, rfl, h⟩)
  · exact .inr (.inr ⟨z, rfl, h⟩)
/-- a dict of ints and texts -/
theorem Rep.dicI {o : Bool} {l : List (T × T)} {v : V} (r : Rep Z Sh H v (.dic o l) A) (s : SR Z Sh F ms σ H env) (h : (l.all fun p => kind? p.1 == some false) = true) :
    ∃ a kvs, v = .ref a ∧ Rd H a (.dK kvs) ∧ kvs.map (fun p => keyT p.1) = l.map (·.1) ∧ RpL Z Sh (kvs.map (·.2)) (l.map fun p => sh1 p.2) := by
  have no : ∀ {xs : List (NestedKey × Addr × V)}, (l ≠ [] ∧ ∀ q ∈ l, kind? q.1 = some true) → False := fun {xs} ⟨h1, h2⟩ => by
    cases l with
    | nil => exact h1 rfl
    | cons p l =>
      have e1 := h2 p List.mem_cons_self
      rw [List.all_cons, Bool.and_eq_true, e1] at h
      exact absurd h.1 (by decide)
  cases r with
  | sh r =>
    cases r with
    | dic0 h hlen hkk hs =>
      refine ⟨_, _, rfl, .inr ⟨_, s.sub _ _ h⟩, hkk, by simp [hlen], fun i v t h1 h2 => ?_⟩
      rw [List.getElem?_map] at h1 h2
      obtain ⟨p, g1, rfl⟩ := Option.map_eq_some_iff.mp h1
      obtain ⟨q, g2, rfl⟩ := Option.map_eq_some_iff.mp h2
      exact VRep.at' (H := H) (B := []) (VRep.ofRpL (RpL.nil.cons (hs i p q g1 g2))) (i := 0) rfl rfl
    | dic1 h hlen hkk hp hr hs => exact (no (xs := []) hp).elim
  | dic0 h n hkk hs =>
    refine ⟨_, _, rfl, .inl h, hkk, ?_, fun i v t h1 h2 => ?_⟩
    · have := congrArg List.length hkk; simpa using this
    · rw [List.getElem?_map] at h2
      obtain ⟨q, g2, rfl⟩ := Option.map_eq_some_iff.mp h2
      exact hs.at' h1 (by rw [List.getElem?_map, g2]; rfl)
  | dic1 h n hkk hp hr hs => exact (no (xs := []) hp).elim
theorem okK0_kind {t : T} (h : okK0 t = true) : kind? t = some false := by cases t <;> first | rfl | cases h
theorem okK0_rp {k : Key} (h : okK0 (keyT k) = true) : Rp Z Sh (kV k) (keyT k) := by
  cases k with
  | inl i => exact .int i
  | inr z =>
    have h' : (decide (z.cps.toList.length ≤ line) && z.cps.toList.all fun c => decide (c < 1114112)) = true := h
    rw [Bool.and_eq_true, decide_eq_true_eq, List.all_eq_true] at h'
    have e : z = sOf z.cps.toList := by cases z; simp [sOf]
    have := Rp.str (Z := Z) (Sh := Sh) z.cps.toList ⟨h'.1, fun c hc => by simpa using h'.2 c hc⟩
    rw [← e] at this
    exact this
theorem okKeys {kvs : List (Key × V)} {l : List (T × T)} (hk : kvs.map (fun p => keyT p.1) = l.map (·.1)) (ok : (l.all fun p => okK0 p.1) = true) : RpL Z Sh (kvs.map fun kv => kV kv.1) (l.map (·.1)) := by
  induction kvs generalizing l with
  | nil =>
    cases l with
    | nil => exact RpL.nil
    | cons _ _ => simp at hk
  | cons p kvs ih =>
    cases l with
    | nil => simp at hk
    | cons q l =>
      simp only [List.map_cons, List.cons.injEq] at hk
      rw [List.all_cons, Bool.and_eq_true] at ok
      refine RpL.cons ?_ (ih hk.2 ok.2)
      show Rp Z Sh (kV p.1) q.1
      rw [← hk.1] at ok ⊢
      exact okK0_rp ok.1
theorem ok_list : Ok1 Z (rListZ Z.K) (b1T .list) := fun Sh F ms σ H env x ta A t Q s rx hf fin => by
  cases ta with
  | tup l =>
    obtain ⟨p, vs, rfl, q, r, _⟩ := rx.tupI s
    cases hf
    exact .inl ⟨p, vs, rfl, .inr q, fun l hl => fin.newL s r hl⟩
  | lst o l =>
    obtain ⟨p, vs, rfl, q, r⟩ := rx.lstI s
    cases hf
    exact .inl ⟨p, vs, rfl, .inl (Rd.sq q), fun l hl => fin.newL s r hl⟩
  | dic o l =>
    have hf : (if (l.all fun p => okK0 p.1) = true then some (T.lst true (l.map (·.1))) else none) = some t := hf
    by_cases h : (l.all fun p => okK0 p.1) = true
    · rw [if_pos h] at hf
      cases hf
      obtain ⟨a, kvs, rfl, q, hk, r⟩ := rx.dicI s (List.all_eq_true.mpr fun p hp => by rw [okK0_kind (List.all_eq_true.mp h p hp)]; rfl)
      exact .inr (.inl ⟨a, kvs, rfl, q, fun p hp => fin.newL s (okKeys hk h) hp⟩)
    · rw [if_neg h] at hf; cases hf
  | str z =>
    obtain ⟨rfl, o⟩ := rx.strI
    cases hf
    have hl := line_eq
    have rl : ∀ z : List Nat, (∀ c ∈ z, c < 1114112) → RpL Z Sh (z.map fun c => V.str ⟨#[c]⟩) (z.map fun c => T.str [c]) := by
      intro z
      induction z with
      | nil => intro _; exact RpL.nil
      | cons c z ih =>
        intro h
        exact RpL.cons (.str [c] (okS_one (h c List.mem_cons_self))) (ih fun x hx => h x (List.mem_cons_of_mem _ hx))
    refine .inr (.inr ⟨_, rfl, ?_, fun p hp => ?_⟩)
    · have := o.1
      have e : (sOf z).cps.size = z.length := by simp [sOf]
      rw [e]; omega
    · have := fin.newL s (rl z o.2) hp
      have e : (sOf z).cps.toList = z := by simp [sOf]
      rw [e]
      exact this
  | _ => cases hf
def rTupZ (K : PySem.W.Frag) : V → Hp → VK → Prop := fun x H Q => ∃ p ys, x = .ref p ∧ ((SqL K H p ys ∧ ∀ l, H l = none → Q (.ref l) (upd H l (.tup ys))) ∨ (SqT K H p ys ∧ Q (.ref p) H))
theorem cr_tuple : CallR X (.type "tuple") (one (rTupZ X.K)) := CallR.imp call_tuple_of fun xs H Q ⟨x, e, p, ys, e2, h⟩ => by subst e2; exact ⟨p, ys, e, h⟩
theorem ok_tuple : Ok1 Z (rTupZ Z.K) (b1T .tuple) := fun Sh F ms σ H env x ta A t Q s rx hf fin => by
  cases ta with
  | tup l =>
    obtain ⟨p, vs, rfl, q, r, q2⟩ := rx.tupI s
    cases hf
    exact ⟨p, vs, rfl, .inr ⟨q, fin.sh s (.tup q2 r.1 r.2)⟩⟩
  | lst o l =>
    obtain ⟨p, vs, rfl, q, r⟩ := rx.lstI s
    cases hf
    exact ⟨p, vs, rfl, .inl ⟨Rd.sq q, fun l hl => fin.newT s r hl⟩⟩
  | _ => cases hf
/-! ### lists of numbers, truths, texts -/
theorem ints_of : ∀ {vs : List V} {l : List T} {is : List Int}, RpL Z Sh vs l → ints? l = some is → vs = is.map V.int
  | [], [], is, _, h => by cases h; rfl
  | [], _ :: _, _, q, _ => by have := q.1; simp at this
  | _ :: _, [], _, q, _ => by have := q.1; simp at this
  | w :: vs, u :: l, is, q, h => by
    cases u with
    | int i =>
      have h : (ints? l).map (i :: ·) = some is := h
      obtain ⟨js, h1, rfl⟩ := Option.map_eq_some_iff.mp h
      have h2 := q.head
      cases h2
      rw [ints_of q.tail h1]
      rfl
    | _ => cases h
theorem bls_of : ∀ {vs : List V} {l : List T} {is : List Bool}, RpL Z Sh vs l → bls? l = some is → vs = is.map V.bl
  | [], [], is, _, h => by cases h; rfl
  | [], _ :: _, _, q, _ => by have := q.1; simp at this
  | _ :: _, [], _, q, _ => by have := q.1; simp at this
  | w :: vs, u :: l, is, q, h => by
    cases u with
    | bl i =>
      have h : (bls? l).map (i :: ·) = some is := h
      obtain ⟨js, h1, rfl⟩ := Option.map_eq_some_iff.mp h
      have h2 := q.head
      cases h2
      rw [bls_of q.tail h1]
      rfl
    | _ => cases h
theorem strs_of : ∀ {vs : List V} {l : List T} {is : List (List Nat)}, RpL Z Sh vs l → strs? l = some is → vs = (is.map sOf).map V.str ∧ ∀ s ∈ is, okS s
  | [], [], is, _, h => by cases h; exact ⟨rfl, fun _ h => by simp at h⟩
  | [], _ :: _, _, q, _ => by have := q.1; simp at this
  | _ :: _, [], _, q, _ => by have := q.1; simp at this
  | w :: vs, u :: l, is, q, h => by
    cases u with
    | str i =>
      have h : (strs? l).map (i :: ·) = some is := h
      obtain ⟨js, h1, rfl⟩ := Option.map_eq_some_iff.mp h
      have h2 := q.head
      cases h2 with
      | str _ hi =>
        obtain ⟨e, hj⟩ := strs_of q.tail h1
        rw [e]
        refine ⟨rfl, fun s hs => ?_⟩
        rcases List.mem_cons.mp hs with rfl | hs
        · exact hi
        · exact hj s hs
    | _ => cases h
/-- a sequence: a list or a tuple -/
theorem seq_of {v : V} {t : T} {l : List T} (s : SR Z Sh F ms σ H env) (r : Rep Z Sh H v t A) (h : seq? t = some l) : ∃ p vs, v = .ref p ∧ (SqL Z.K H p vs ∨ SqT Z.K H p vs) ∧ RpL Z Sh vs l := by
  cases t with
  | tup k => cases h; obtain ⟨p, vs, e, q, r, _⟩ := r.tupI s; exact ⟨p, vs, e, .inr q, r⟩
  | lst o k => cases h; obtain ⟨p, vs, e, q, r⟩ := r.lstI s; exact ⟨p, vs, e, .inl (Rd.sq q), r⟩
  | _ => cases h
end
end Vi

set_option autoImplicit false
set_option Elab.async false
set_option linter.all false
set_option maxRecDepth 100000
/-! VI: built-ins over lists, methods. -/
namespace Vi
open PySem PySem.Spec PyProof.Rows L2
section
variable {X : Cx} {c : Cfg} {xp : Xp (zx X)} {e : E} {a b d : Expr} {pos : Pos}
variable {Z : Rw} {Sh H : Hp} {F : List Addr} {ms : List (Nat × V)} {σ : L2.St} {env : Env} {A B : List Addr}
def rIntsZ (K : PySem.W.Frag) (C : List Int → Int → Prop) : V → Hp → VK → Prop := fun x H Q => ∃ (a : Addr) (ns : List Int), x = V.ref a ∧ SqL K H a (ns.map V.int) ∧ ns.length = ns.length ∧ (∃ m, C ns m) ∧ ∀ m, C ns m → Q (.int m) H
theorem cr_sumZ (hc : X.calm = true) : CallR X (.builtin "sum") (one (rIntsZ X.K fun ns m => m = ns.sum)) := CallR.imp (cr_sum hc) fun xs H Q ⟨x, e, a, ns, e2, h, _, _, q⟩ => by subst e2; exact ⟨a, ns, e, h, q _ rfl⟩
theorem ok_sum : Ok1 Z (rIntsZ Z.K fun ns m => m = ns.sum) (b1T .sum) := fun Sh F ms σ H env x ta A t Q s rx hf fin => by
  cases ta with
  | lst o l =>
    obtain ⟨p, vs, rfl, q, r⟩ := rx.lstI s
    have hf : (ints? l).map (fun is => T.int is.sum) = some t := hf
    obtain ⟨is, h1, rfl⟩ := Option.map_eq_some_iff.mp hf
    have e := ints_of r h1
    subst e
    exact ⟨p, is, rfl, Rd.sq q, rfl, ⟨_, rfl⟩, fun m hm => by rw [hm]; exact fin.sh s (.int _)⟩
  | _ => cases hf
def MaxC (ns : List Int) (m : Int) : Prop := m ∈ ns ∧ ∀ y ∈ ns, y ≤ m
def MinC (ns : List Int) (m : Int) : Prop := m ∈ ns ∧ ∀ y ∈ ns, m ≤ y
theorem maxI_C : ∀ {ns : List Int} {m : Int}, maxI ns = some m → MaxC ns m
  | [], m, h => by cases h
  | [a], m, h => by cases h; exact ⟨by simp, fun y hy => by simp at hy; omega⟩
  | a :: b :: r, m, h => by
    have h : (maxI (b :: r)).map (fun b => if a < b then b else a) = some m := h
    obtain ⟨k, h1, rfl⟩ := Option.map_eq_some_iff.mp h
    obtain ⟨h2, h3⟩ := maxI_C h1
    by_cases z : a < k
    · simp only [z, if_true]
      exact ⟨List.mem_cons_of_mem _ h2, fun y hy => by rcases List.mem_cons.mp hy with rfl | hy; · omega
                                                       · exact h3 y hy⟩
    · simp only [z, if_false]
      exact ⟨List.mem_cons_self, fun y hy => by rcases List.mem_cons.mp hy with rfl | hy; · omega
                                                · have := h3 y hy; omega⟩
theorem minI_C : ∀ {ns : List Int} {m : Int}, minI ns = some m → MinC ns m
  | [], m, h => by cases h
  | [a], m, h => by cases h; exact ⟨by simp, fun y hy => by simp at hy; omega⟩
  | a :: b :: r, m, h => by
    have h : (minI (b :: r)).map (fun b => if b < a then b else a) = some m := h
    obtain ⟨k, h1, rfl⟩ := Option.map_eq_some_iff.mp h
    obtain ⟨h2, h3⟩ := minI_C h1
    by_cases z : k < a
    · simp only [z, if_true]
      exact ⟨List.mem_cons_of_mem _ h2, fun y hy => by rcases List.mem_cons.mp hy with rfl | hy; · omega
                                                       · exact h3 y hy⟩
    · simp only [z, if_false]
      exact ⟨List.mem_cons_self, fun y hy => by rcases List.mem_cons.mp hy with rfl | hy; · omega
                                                · have := h3 y hy; omega⟩
theorem cr_maxZ (hc : X.calm = true) : CallR X (.builtin "max") (one (rIntsZ X.K MaxC)) := CallR.imp (cr_max hc) fun xs H Q ⟨x, e, a, ns, e2, h, _, ⟨m, hm⟩, q⟩ => by
  subst e2; exact ⟨a, ns, e, h, List.length_pos_of_mem hm.1, fun m h1 h2 => q m ⟨h1, h2⟩⟩
theorem cr_minZ (hc : X.calm = true) : CallR X (.builtin "min") (one (rIntsZ X.K MinC)) := CallR.imp (cr_min hc) fun xs H Q ⟨x, e, a, ns, e2, h, _, ⟨m, hm⟩, q⟩ => by
  subst e2; exact ⟨a, ns, e, h, List.length_pos_of_mem hm.1, fun m h1 h2 => q m ⟨h1, h2⟩⟩
theorem ok_max : Ok1 Z (rIntsZ Z.K MaxC) (b1T .max) := fun Sh F ms σ H env x ta A t Q s rx hf fin => by
  cases ta with
  | lst o l =>
    obtain ⟨p, vs, rfl, q, r⟩ := rx.lstI s
    have hf : ((ints? l).bind fun is => (maxI is).map T.int) = some t := hf
    obtain ⟨is, h1, hf⟩ := Option.bind_eq_some_iff.mp hf
    obtain ⟨m, h2, rfl⟩ := Option.map_eq_some_iff.mp hf
    have e := ints_of r h1
    subst e
    have hm := maxI_C h2
    exact ⟨p, is, rfl, Rd.sq q, rfl, ⟨m, hm⟩, fun k hk => by
      have : k = m := by have := hm.2 k hk.1; have := hk.2 m hm.1; omega
      rw [this]; exact fin.sh s (.int _)⟩
  | _ => cases hf
theorem ok_min : Ok1 Z (rIntsZ Z.K MinC) (b1T .min) := fun Sh F ms σ H env x ta A t Q s rx hf fin => by
  cases ta with
  | lst o l =>
    obtain ⟨p, vs, rfl, q, r⟩ := rx.lstI s
    have hf : ((ints? l).bind fun is => (minI is).map T.int) = some t := hf
    obtain ⟨is, h1, hf⟩ := Option.bind_eq_some_iff.mp hf
    obtain ⟨m, h2, rfl⟩ := Option.map_eq_some_iff.mp hf
    have e := ints_of r h1
    subst e
    have hm := minI_C h2
    exact ⟨p, is, rfl, Rd.sq q, rfl, ⟨m, hm⟩, fun k hk => by
      have : k = m := by have := hm.2 k hk.1; have := hk.2 m hm.1; omega
      rw [this]; exact fin.sh s (.int _)⟩
  | _ => cases hf
def rBlsZ (K : PySem.W.Frag) (g : List Bool → Bool) : V → Hp → VK → Prop := fun x H Q => ∃ (a : Addr) (bs : List Bool), x = V.ref a ∧ SqL K H a (bs.map V.bl) ∧ Q (.bl (g bs)) H
theorem cr_allZ (hc : X.calm = true) : CallR X (.builtin "all") (one (rBlsZ X.K fun bs => bs.all id)) := CallR.imp (cr_all hc) fun xs H Q ⟨x, e, a, ns, e2, h, q⟩ => by subst e2; exact ⟨a, ns, e, h, q⟩
theorem cr_anyZ (hc : X.calm = true) : CallR X (.builtin "any") (one (rBlsZ X.K fun bs => bs.any id)) := CallR.imp (cr_any hc) fun xs H Q ⟨x, e, a, ns, e2, h, q⟩ => by subst e2; exact ⟨a, ns, e, h, q⟩
theorem bls_ok {g : List Bool → Bool} {x : V} {o : Bool} {l : List T} {t : T} {Q : VK} (s : SR Z Sh F ms σ H env) (rx : Rep Z Sh H x (.lst o l) A) (hf : (bls? l).map (fun bs => T.bl (g bs)) = some t) (fin : Fin Z Sh F ms σ H env t Q) : rBlsZ Z.K g x H Q := by
  obtain ⟨p, vs, rfl, q, r⟩ := rx.lstI s
  obtain ⟨is, h1, rfl⟩ := Option.map_eq_some_iff.mp hf
  have e := bls_of r h1
  subst e
  exact ⟨p, is, rfl, Rd.sq q, fin.sh s (.bl _)⟩
theorem ok_all : Ok1 Z (rBlsZ Z.K fun bs => bs.all id) (b1T .all) := fun Sh F ms σ H env x ta A t Q s rx hf fin => by
  cases ta with
  | lst o l => exact bls_ok s rx hf fin
  | _ => cases hf
theorem ok_any : Ok1 Z (rBlsZ Z.K fun bs => bs.any id) (b1T .any) := fun Sh F ms σ H env x ta A t Q s rx hf fin => by
  cases ta with
  | lst o l => exact bls_ok s rx hf fin
  | _ => cases hf
/-! ### two arguments -/
def two (r : R2) : List V → Hp → VK → Prop := fun xs H Q => ∃ x y, xs = [x, y] ∧ r x y H Q
theorem se_call2 {f : B2} {ea eb : E} {x : Str} {p : Pos} {r : R2} (hpe : ∀ {t : TA}, PA X [a, b] t → PE X (.Call (.Name x p) [a, b] [] pos) (tCB (two r) t)) (ok : Ok2 (zx X) r (b2T f)) (ha : SE X c xp ea a) (hb : SE X c xp eb b) (hs : notStar a = true) (hs2 : notStar b = true) :
    SE X c xp (.b2 f ea eb) (.Call (.Name x p) [a, b] [] pos) :=
  .plain rfl (peI (hpe (pa_cons ha.o (pa_cons hb.o pa_nil (star_of hs2)) (star_of hs))) fun σ H Q h => rO_mono (bin_imp ok σ H Q h) fun v H1 q => rO_mono q fun w H2 q => ⟨v, w, rfl, q⟩) (fun _ => rfl)
theorem bf_call2 {x : Str} {id : String} {p : Pos} {r : List V → Hp → VK → Prop} (B : Bf X x id) (hs : notStar a = true) (hs2 : notStar b = true) (h : CallR X (.builtin id) r) {t : TA} (ha : PA X [a, b] t) : PE X (.Call (.Name x p) [a, b] [] pos) (tCB r t) :=
  pe_callB h B.hg B.hm B.hv ha B.h1 B.h2 (star_of hs) (by
    have e : starEach [b] X.env = (false, eval b X.env) :: starEach [] X.env := star_of hs2
    rw [e]; rfl)
theorem cr_min2 (hc : X.calm = true) : CallR X (.builtin "min") (two (rI0 fun i j => .int (if j < i then j else i))) := CallR.imp (call_min2 hc) fun xs H Q ⟨x, y, e, i, j, e1, e2, h⟩ => by subst e1; subst e2; exact ⟨i, j, e, h⟩
theorem cr_max2 (hc : X.calm = true) : CallR X (.builtin "max") (two (rI0 fun i j => .int (if j > i then j else i))) := CallR.imp (call_max2 hc) fun xs H Q ⟨x, y, e, i, j, e1, e2, h⟩ => by subst e1; subst e2; exact ⟨i, j, e, h⟩
theorem ok_min2 : Ok2 Z (rI0 fun i j => .int (if j < i then j else i)) (b2T .min) := fun Sh F ms σ H env x y ta tb A B t Q s rx ry hf fin => by
  cases ta with
  | int i =>
    cases tb with
    | int j => cases rx.intI; cases ry.intI; cases hf; exact ⟨i, j, rfl, rfl, fin.sh s (.int _)⟩
    | _ => cases hf
  | _ => cases tb <;> cases hf
theorem ok_max2 : Ok2 Z (rI0 fun i j => .int (if j > i then j else i)) (b2T .max) := fun Sh F ms σ H env x y ta tb A B t Q s rx ry hf fin => by
  cases ta with
  | int i =>
    cases tb with
    | int j => cases rx.intI; cases ry.intI; cases hf; exact ⟨i, j, rfl, rfl, fin.sh s (.int _)⟩
    | _ => cases hf
  | _ => cases tb <;> cases hf
end
end Vi

set_option autoImplicit false
set_option Elab.async false
set_option linter.all false
set_option maxRecDepth 100000
/-! VI: methods, isinstance. -/
namespace Vi
open PySem PySem.Spec PyProof.Rows L2
section
variable {X : Cx} {c : Cfg} {xp : Xp (zx X)} {e : E} {a b d : Expr} {pos apos : Pos}
variable {Z : Rw} {Sh H : Hp} {F : List Addr} {ms : List (Nat × V)} {σ : L2.St} {env : Env} {A B : List Addr}
/-- no call of a name without arguments -/
def notSuper : Expr → Bool
  | .Call _ [] [] _ => false
  | _ => true
theorem base_of {o : Expr} {m : Str} {env : PySem.Env} (h : notSuper o = true) : attributeBase o m env (eval o env) = eval o env := by
  unfold attributeBase
  split
  · cases h
  · rfl
/-- a text's method with one argument -/
structure Mo (X : Cx) (name : Str) (id : String) (r : V → List V → Hp → VK → Prop) : Prop where
  slot : Slot "str" name id
  ty : typeOf (.builtin id) = pure (.type "method_descriptor")
  mt : MtR X id r
theorem few1 {cpos : Pos} (hs : notStar b = true) : ((((backTo cpos (starEach [b] X.env)).all fun x => !x.1) && (backToKw cpos (keywordEach [] X.env)).all fun x => x.1.isSome) && decide (([b].length + ([] : List Keyword).length + if ([] : List Keyword).isEmpty = true then 0 else 1) < 30)) = true := by
  have e : starEach [b] X.env = (false, eval b X.env) :: starEach [] X.env := star_of hs
  rw [e]; rfl
theorem any1 {cpos : Pos} : ((backTo cpos (starEach [] X.env)).any fun x => x.1) = false := rfl
def rMt (r : Str → V → Hp → VK → Prop) : V → List V → Hp → VK → Prop := fun x xs H Q => ∃ z y, x = .str z ∧ xs = [y] ∧ r z y H Q
theorem se_mt {f : Mt} {ea eb : E} {name : Str} {id : String} {r : Str → V → Hp → VK → Prop} (mo : Mo X name id (rMt r)) (ok : ∀ s, okS s → Ok1 (zx X) (r (sOf s)) (mtT f s)) (ha : SE X c xp ea a) (hb : SE X c xp eb b) (h1 : notSuper a = true) (h2 : notStar b = true) (h3 : (apos.endLine == pos.line) = true) :
    SE X c xp (.mt f ea eb) (.Call (.Attribute a name apos) [b] [] pos) := by
  refine .plain rfl (peI (pe_bm PySem.F.plainAttrs_str mo.slot mo.ty mo.mt (pe_strong ha) (pa_cons hb.o pa_nil (star_of h2)) (base_of h1) (few1 h2) h3 (star_of h2) any1) fun σ H Q ⟨Sh, F, ms, env, sr, out⟩ => ?_) (fun _ => rfl)
  have out : Out ((strong (isRd ea) (ev c ea) env).bind fun t e => match t with
    | .str s => (opd (isRd eb) (ev c eb) e).bind fun p e => fin1 p (mtT f s) e
    | _ => .no) _ _ := out
  refine ⟨Sh, F, ms, env, sr, out.bind.imp (fun t e1 q1 v1 H1 Sh1 A s1 r1 a1 => ?_) fun _ _ _ x => x⟩
  cases t with
  | str s =>
    obtain ⟨rfl, os⟩ := r1.strI
    refine ⟨rfl, Sh1, F, ms, e1, s1.less, (show Out ((opd (isRd eb) (ev c eb) e1).bind _) _ _ from q1).bind.imp (fun p e2 q2 v2 H2 Sh2 B s2 r2 a2 => ?_) fun _ _ _ x => xp.mono [] a1 x⟩
    obtain ⟨tb, t, g2, hf, fin⟩ := out_fin1 q2
    obtain ⟨B', w2⟩ := r2.fin s2.less g2
    exact ⟨_, _, rfl, rfl, ok s os Sh2 F ms σ H2 e2 v2 tb B' t Q s2.less w2 hf fun v H' Sh' C s3 r3 a3 => fin v H' Sh' C s3 r3 ((a1.trans a2).trans a3)⟩
  | _ => exact q1.elim
/-! ### join -/
theorem joinS_len (sep : List Nat) : ∀ l : List (List Nat), (joinS sep l).length ≤ (l.map List.length).sum + l.length * sep.length
  | [] => by simp [joinS]
  | [a] => by simp [joinS]
  | a :: b :: r => by
    have := joinS_len sep (b :: r)
    simp only [joinS, List.length_append, List.map_cons, List.sum_cons, List.length_cons] at this ⊢
    rw [Nat.add_mul, Nat.one_mul]
    omega
theorem joinS_mem (sep : List Nat) {ch : Nat} : ∀ {l : List (List Nat)}, ch ∈ joinS sep l → ch ∈ sep ∨ ∃ x ∈ l, ch ∈ x
  | [], h => by simp [joinS] at h
  | [a], h => .inr ⟨a, by simp, h⟩
  | a :: b :: r, h => by
    simp only [joinS, List.mem_append] at h
    rcases h with (h | h) | h
    · exact .inr ⟨a, by simp, h⟩
    · exact .inl h
    · rcases joinS_mem sep h with h | ⟨x, hx, h⟩
      · exact .inl h
      · exact .inr ⟨x, List.mem_cons_of_mem _ hx, h⟩
theorem join_sOf (sep : List Nat) : ∀ l : List (List Nat), Txt.join (sOf sep) (l.map sOf) = sOf (joinS sep l) := by
  have aux : ∀ l : List (List Nat), Str.join (sOf sep) (l.map sOf) = sOf (joinS sep l) := by
    intro l
    induction l with
    | nil => rfl
    | cons a r ih =>
      cases r with
      | nil => rfl
      | cons b r =>
        show sOf a ++ sOf sep ++ Str.join (sOf sep) ((b :: r).map sOf) = _
        rw [ih, sOf_append, sOf_append]
        rfl
  intro l
  exact (StrLaws.glued_eq_join _ _).trans (aux l)
def rJoin (K : PySem.W.Frag) : Str → V → Hp → VK → Prop := fun z y H Q => ∃ p ys, y = .ref p ∧ (SqL K H p (ys.map V.str) ∨ SqT K H p (ys.map V.str)) ∧ (ys.map fun x => x.length).sum + ys.length * z.length ≤ 16777216 ∧ Q (.str (Txt.join z ys)) H
theorem mo_join : Mo X "join" "str.join" (rMt (rJoin X.K)) := ⟨PySem.F.slot_str_join, PySem.F.type_str_join, fun pins s σ H x xs v us Q I rx rs ⟨z, y, e1, e2, p, ys, e3, h1, h2, h3⟩ => mt_join pins s σ H x xs v us Q I rx rs ⟨z, p, ys, e1, by rw [e2, e3], h1, h2, h3⟩⟩
theorem ok_join (sep : List Nat) (os : okS sep) : Ok1 Z (rJoin Z.K (sOf sep)) (mtT .join sep) := fun Sh F ms σ H env x ta A t Q s rx hf fin => by
  have hf : ((seq? ta).bind fun l => (strs? l).bind fun ss => if (ss.map List.length).sum + ss.length * sep.length ≤ line then some (T.str (joinS sep ss)) else none) = some t := by cases ta <;> exact hf
  obtain ⟨l, h1, hf⟩ := Option.bind_eq_some_iff.mp hf
  obtain ⟨ss, h2, hf⟩ := Option.bind_eq_some_iff.mp hf
  by_cases h : (ss.map List.length).sum + ss.length * sep.length ≤ line
  · rw [if_pos h] at hf
    cases hf
    obtain ⟨p, vs, rfl, q, r⟩ := seq_of s rx h1
    obtain ⟨e, oo⟩ := strs_of r h2
    subst e
    refine ⟨p, ss.map sOf, rfl, q, ?_, ?_⟩
    · rw [List.map_map, List.length_map, sOf_length]
      have e : (fun x => Str.length x) ∘ sOf = List.length := by funext x; exact sOf_length x
      have e' : ((fun x : Str => x.length) ∘ sOf) = List.length := e
      rw [e']
      exact h
    · rw [join_sOf]
      refine fin.sh s (.str _ ⟨Nat.le_trans (joinS_len sep ss) h, fun ch hch => ?_⟩)
      rcases joinS_mem sep hch with hc | ⟨x, hx, hc⟩
      · exact os.2 ch hc
      · exact (oo x hx).2 ch hc
  · rw [if_neg h] at hf; cases hf
/-! ### index -/
def rIndex1 : Str → V → Hp → VK → Prop := fun z y H Q => ∃ b i rest, y = .str b ∧ Builtin.Str.occurrences z b 0 z.length 1 = i :: rest ∧ Q (.int (i : Nat)) H
theorem mo_index : Mo X "index" "str.index" (rMt rIndex1) := ⟨PySem.F.slot_str_index, PySem.F.type_str_index, fun pins s σ H x xs v us Q I rx rs ⟨z, y, e1, e2, b, i, rest, e3, ho, q⟩ => by
  subst e1; subst e2; subst e3
  obtain ⟨t, e⟩ := rx
  subst e
  cases rs with
  | cons r1 rs =>
    cases rs
    obtain ⟨t2, e⟩ := r1
    subst e
    exact PySem.SC.index ho ⟨.int (i : Nat), H, I.tok _, ⟨_, rfl⟩, q⟩⟩
theorem idxOf_some {α : Type} {p : α → Bool} : ∀ {l : List α} {n : Nat}, idxOf p l = some n → (∃ x, l[n]? = some x ∧ p x = true) ∧ ∀ k, k < n → ∀ x, l[k]? = some x → p x = false
  | [], n, h => by cases h
  | a :: r, n, h => by
    unfold idxOf at h
    by_cases z : p a = true
    · rw [if_pos z] at h; cases h
      exact ⟨⟨a, rfl, z⟩, fun k hk => by omega⟩
    · rw [if_neg z] at h
      obtain ⟨m, h1, rfl⟩ := Option.map_eq_some_iff.mp h
      obtain ⟨h2, h3⟩ := idxOf_some h1
      refine ⟨by simpa using h2, fun k hk x hx => ?_⟩
      cases k with
      | zero => simp at hx; subst hx; simpa using z
      | succ k => exact h3 k (by omega) x (by simpa using hx)
theorem occ_idx {s : List Nat} {ch n : Nat} (h : idxOf (· == ch) s = some n) : ∃ rest, Builtin.Str.occurrences (sOf s) (sOf [ch]) 0 (sOf s).length 1 = n :: rest := by
  obtain ⟨⟨x, h1, h2⟩, h3⟩ := idxOf_some h
  have h2 : x = ch := by simpa using h2
  subst h2
  have at_n : (n + (sOf [x]).length ≤ (sOf s).length ∧ Builtin.Str.subAt (sOf s) (sOf [x]) n = true) := (StrLaws.subAt_one (sOf s) x n).mpr (by rw [sOf_cps]; exact h1)
  rcases StrLaws.occ_head (sOf s) (sOf [x]) 1 (Nat.le_refl _) with ⟨_, hn⟩ | ⟨i, r, e, hi, hlt⟩
  · exact (hn n at_n).elim
  · have hi2 := (StrLaws.subAt_one (sOf s) x i).mp hi
    rw [sOf_cps] at hi2
    have : i = n := by
      rcases Nat.lt_trichotomy i n with z | z | z
      · have := h3 i z x hi2
        simp at this
      · exact z
      · exact (hlt n z at_n).elim
    rw [this] at e
    exact ⟨r, e⟩
theorem ok_index (z : List Nat) (os : okS z) : Ok1 Z (rIndex1 (sOf z)) (mtT .index z) := fun Sh F ms σ H env x ta A t Q s rx hf fin => by
  cases ta with
  | str w =>
    match w, hf, rx with
    | [], hf, _ => cases hf
    | _ :: _ :: _, hf, _ => cases hf
    | [ch], hf, rx =>
      have hf : (idxOf (· == ch) z).map (fun n => T.int (n : Nat)) = some t := hf
      obtain ⟨n, h1, rfl⟩ := Option.map_eq_some_iff.mp hf
      obtain ⟨rfl, _⟩ := rx.strI
      obtain ⟨rest, h2⟩ := occ_idx h1
      exact ⟨_, n, rest, rfl, h2, fin.sh s (.int _)⟩
  | _ => cases hf
/-! ### split -/
def rSplit : Str → V → Hp → VK → Prop := fun z y H Q => ∃ b, y = .str b ∧ (b.length == 0) = false ∧ z.length + 2 ≤ sizeLine ∧ rNewStrs (Txt.split z b) H Q
theorem mo_split : Mo X "split" "str.split" (rMt rSplit) := ⟨PySem.F.slot_str_split, PySem.F.type_str_split, fun pins s σ H x xs v us Q I rx rs ⟨z, y, e1, e2, b, e3, h⟩ => mt_split pins s σ H x xs v us Q I rx rs ⟨z, b, e1, by rw [e2, e3], h⟩⟩
theorem splS_eq (p : List Nat) : ∀ (l : List Nat) (k : Nat) (acc : List Nat), splS p k acc l = TL.spl p k acc l
  | [], k, acc => by cases k <;> rfl
  | c :: r, 0, acc => by
    show (if ((c :: r).take p.length == p) = true then acc :: splS p (p.length - 1) [] r else splS p 0 (acc ++ [c]) r) = (if TL.pre p (c :: r) = true then acc :: TL.spl p (p.length - 1) [] r else TL.spl p 0 (acc ++ [c]) r)
    rw [splS_eq p r, splS_eq p r]
    rfl
  | c :: r, k + 1, acc => splS_eq p r k acc
theorem splS_ok (p : List Nat) : ∀ (l : List Nat) (k : Nat) (acc : List Nat), ∀ x ∈ splS p k acc l, x.length ≤ acc.length + l.length ∧ ∀ c ∈ x, c ∈ acc ∨ c ∈ l
  | [], k, acc, x, h => by
    have h : x ∈ [acc] := by cases k <;> exact h
    rw [List.mem_singleton] at h
    subst h
    exact ⟨by simp, fun c hc => .inl hc⟩
  | c :: r, 0, acc, x, h => by
    have h : x ∈ (if ((c :: r).take p.length == p) = true then acc :: splS p (p.length - 1) [] r else splS p 0 (acc ++ [c]) r) := h
    by_cases z : ((c :: r).take p.length == p) = true
    · rw [if_pos z] at h
      rcases List.mem_cons.mp h with rfl | h
      · exact ⟨by simp, fun c hc => .inl hc⟩
      · obtain ⟨h1, h2⟩ := splS_ok p r _ _ x h
        refine ⟨by simp at h1 ⊢; omega, fun d hd => ?_⟩
        rcases h2 d hd with h | h
        · simp at h
        · exact .inr (List.mem_cons_of_mem _ h)
    · rw [if_neg z] at h
      obtain ⟨h1, h2⟩ := splS_ok p r _ _ x h
      refine ⟨by simp at h1 ⊢; omega, fun d hd => ?_⟩
      rcases h2 d hd with h | h
      · rcases List.mem_append.mp h with h | h
        · exact .inl h
        · rw [List.mem_singleton] at h; subst h; exact .inr List.mem_cons_self
      · exact .inr (List.mem_cons_of_mem _ h)
  | c :: r, k + 1, acc, x, h => by
    obtain ⟨h1, h2⟩ := splS_ok p r k acc x h
    refine ⟨by simp; omega, fun d hd => ?_⟩
    rcases h2 d hd with h | h
    · exact .inl h
    · exact .inr (List.mem_cons_of_mem _ h)
theorem rl_strs : ∀ {l : List (List Nat)}, (∀ x ∈ l, okS x) → RpL Z Sh ((l.map sOf).map V.str) (l.map T.str)
  | [], _ => RpL.nil
  | a :: r, h => RpL.cons (.str a (h a List.mem_cons_self)) (rl_strs fun x hx => h x (List.mem_cons_of_mem _ hx))
theorem ok_split (z : List Nat) (os : okS z) : Ok1 Z (rSplit (sOf z)) (mtT .split z) := fun Sh F ms σ H env x ta A t Q s rx hf fin => by
  cases ta with
  | str w =>
    have hf : (if w ≠ [] ∧ (w.all fun c => decide (c < 256)) = true ∧ z.length + 2 ≤ line then some (T.lst true ((splS w 0 [] z).map .str)) else none) = some t := hf
    by_cases h : w ≠ [] ∧ (w.all fun c => decide (c < 256)) = true ∧ z.length + 2 ≤ line
    · rw [if_pos h] at hf
      cases hf
      obtain ⟨h1, h2, h3⟩ := h
      obtain ⟨rfl, _⟩ := rx.strI
      have hl := line_eq
      refine ⟨_, rfl, ?_, by rw [sOf_length]; omega, fun p hp => ?_⟩
      · rw [sOf_length]
        cases w with
        | nil => exact absurd rfl h1
        | cons _ _ => rfl
      · have e : Txt.split (sOf z) (sOf w) = (splS w 0 [] z).map sOf := by
          rw [splS_eq]
          exact SX.split_S h1 h2
        rw [e]
        refine fin.newL s (rl_strs fun x hx => ?_) hp
        obtain ⟨g1, g2⟩ := splS_ok w z 0 [] x hx
        refine ⟨by simp at g1; exact Nat.le_trans g1 os.1, fun c hc => ?_⟩
        rcases g2 c hc with h | h
        · simp at h
        · exact os.2 c h
    · rw [if_neg h] at hf; cases hf
  | _ => cases hf
/-! ### isinstance -/
def tyName : Ty → String
  | .int => "int"
  | .bool => "bool"
  | .str => "str"
  | .tuple => "tuple"
  | .list => "list"
theorem tyX_lst {K : PySem.W.Frag} {a : Addr} {xs : List V} (h : SqL K H a xs) : TyX K H (.ref a) (.type "list") := by
  rcases h with (h | ⟨o, h⟩) | ⟨o, its, n, h1, h2, _⟩
  · exact .base (.lst h)
  · exact .base (.frz h)
  · exact .kList h1 h2
theorem tyX_tup {K : PySem.W.Frag} {a : Addr} {xs : List V} (h : SqT K H a xs) : TyX K H (.ref a) (.type "tuple") := by
  rcases h with (h | ⟨o, h⟩) | ⟨o, its, n, h1, h2, _⟩
  · exact .base (.tup h)
  · exact .fTuple h
  · exact .kTuple h1 h2
theorem isi_ty {v : V} {t : T} {ty : Ty} {r : Bool} (s : SR Z Sh F ms σ H env) (rx : Rep Z Sh H v t A) (h : isiT ty t = some r) : ∃ n, TyX Z.K H v (.type n) ∧ kitB n (tyName ty) = some r := by
  cases t with
  | non => cases rx.nonI; refine ⟨_, .base .non, ?_⟩; cases ty <;> (cases h; decide +kernel)
  | und => cases ty <;> cases h
  | bl b => cases rx.blI; refine ⟨_, .base (.bl _), ?_⟩; cases ty <;> (cases h; decide +kernel)
  | int i => cases rx.intI; refine ⟨_, .base (.int _), ?_⟩; cases ty <;> (cases h; decide +kernel)
  | str z => obtain ⟨rfl, _⟩ := rx.strI; refine ⟨_, .base (.str _), ?_⟩; cases ty <;> (cases h; decide +kernel)
  | tup l => obtain ⟨p, vs, rfl, q, _⟩ := rx.tupI s; refine ⟨_, tyX_tup q, ?_⟩; cases ty <;> (cases h; decide +kernel)
  | lst o l => obtain ⟨p, vs, rfl, q, _⟩ := rx.lstI s; refine ⟨_, tyX_lst q, ?_⟩; cases ty <;> (cases h; decide +kernel)
  | dic o l => cases ty <;> cases h
theorem se_isi {ea : E} {ty : Ty} {x tn : Str} {p p2 : Pos} (B : Bf X x "isinstance") (Bn : Bt X tn (tyName ty)) (ha : SE X c xp ea a) (hs : notStar a = true) : SE X c xp (.isi ty ea) (.Call (.Name x p) [a, .Name tn p2] [] pos) := by
  have hT : PE X (.Name tn p2) (tC (.ty (tyName ty))) := pe_bltn Bn.hg Bn.hm Bn.hv rfl Bn.h1 Bn.h2
  have e : starEach [Expr.Name tn p2] X.env = (false, eval (.Name tn p2) X.env) :: starEach [] X.env := rfl
  refine .plain rfl (peI (pe_callB call_isi B.hg B.hm B.hv (pa_cons ha.o (pa_cons hT pa_nil e) (star_of hs)) B.h1 B.h2 (star_of hs) (by rw [e]; rfl)) fun σ H Q ⟨Sh, F, ms, env, sr, out⟩ => ?_) (fun _ => rfl)
  refine ⟨Sh, F, ms, env, sr, (show Out ((opd (isRd ea) (ev c ea) env).bind fun o e => fin1 o (fun t => (isiT ty t).map .bl) e) _ _ from out).bind.imp (fun o e1 h1 v1 H1 Sh1 A s1 r1 a1 => ?_) fun _ _ _ x => x⟩
  obtain ⟨ta, t, g1, hf, fin⟩ := out_fin1 h1
  obtain ⟨A', w⟩ := r1.fin s1.less g1
  obtain ⟨r, h2, rfl⟩ := Option.map_eq_some_iff.mp hf
  obtain ⟨n, h3, h4⟩ := isi_ty s1.less w h2
  exact ⟨_, _, _, _, r, rfl, .ty _, h3, kit_ty h4, fin _ H1 Sh1 [] s1.less (.sh (.bl _)) a1⟩
end
end Vi

set_option autoImplicit false
set_option Elab.async false
set_option linter.all false
set_option maxRecDepth 100000
/-! VI: str(..) of a nested tuple, where no repr is under way. -/
namespace Vi
open PySem PySem.Spec PyProof.Rows L2
mutual
def dataP : T → PyData
  | .bl b => .bool b
  | .int i => .int i
  | .str s => .str (sOf s)
  | .tup l => .tuple (dataPs l)
  | .non => .none
  | .und => .none
  | .lst _ _ => .none
  | .dic _ _ => .none
def dataPs : List T → List PyData
  | [] => []
  | a :: r => dataP a :: dataPs r
end
theorem repr_char : ∀ c : _root_.Fin 26, Builtin.Str.reprChar 39 (97 + c.val) = [97 + c.val] := by decide +kernel
theorem repr_fold : ∀ (l : List Nat) (acc : Array Nat), l.all lowC = true → l.foldl (fun out c => out ++ (Builtin.Str.reprChar 39 c).toArray) acc = acc ++ l.toArray
  | [], acc, _ => by simp
  | c :: l, acc, h => by
    rw [List.all_cons, Bool.and_eq_true] at h
    have hc := h.1
    unfold lowC at hc
    rw [Bool.and_eq_true, decide_eq_true_eq, decide_eq_true_eq] at hc
    have e : Builtin.Str.reprChar 39 c = [c] := by
      have := repr_char ⟨c - 97, by omega⟩
      rwa [show 97 + (c - 97) = c by omega] at this
    rw [List.foldl_cons, e, repr_fold l _ h.2]
    simp
theorem repr_low {s : List Nat} (h : s.all lowC = true) : reprText (sOf s) = sOf (39 :: (s ++ [39])) := by
  have q : reprQuote (sOf s) = 39 := by
    unfold reprQuote
    have : (sOf s).cps.contains 39 = false := by
      cases z : (sOf s).cps.contains 39 with
      | false => rfl
      | true =>
        have m : (39 : Nat) ∈ s := by
          rw [Array.contains_iff_mem] at z
          simpa [sOf] using z
        have := List.all_eq_true.mp h 39 m
        exact absurd this (by decide)
    rw [this]; rfl
  unfold reprText
  rw [q]
  have e : (sOf s).cps = s.toArray := rfl
  rw [e, ← Array.foldl_toList, show s.toArray.toList = s from rfl, repr_fold s _ h]
  simp [sOf]
theorem join_sOf' (sep : List Nat) : ∀ l : List (List Nat), Str.join (sOf sep) (l.map sOf) = sOf (joinS sep l)
  | [] => rfl
  | [a] => rfl
  | a :: b :: r => by
    show sOf a ++ sOf sep ++ Str.join (sOf sep) ((b :: r).map sOf) = _
    rw [join_sOf' sep (b :: r), sOf_append, sOf_append]
    rfl
theorem tup_text (zs : List (List Nat)) : tupleText (zs.map sOf) = sOf (40 :: (joinS [44, 32] zs ++ (if zs.length = 1 then [44, 41] else [41]))) := by
  unfold tupleText
  have e1 : (", " : Str) = sOf [44, 32] := by decide +kernel
  have e2 : ("(" : Str) = sOf [40] := by decide +kernel
  rw [e1, e2, join_sOf', List.length_map]
  by_cases h : zs.length = 1
  · rw [if_pos h]
    have e3 : ((if (zs.length == 1) = true then ",)" else ")" : String) : Str) = sOf [44, 41] := by
      rw [if_pos (by rw [h]; rfl)]; decide +kernel
    rw [e3, sOf_append, sOf_append]
    simp
  · rw [if_neg h]
    have e3 : ((if (zs.length == 1) = true then ",)" else ")" : String) : Str) = sOf [41] := by
      rw [if_neg (by simpa using h)]; decide +kernel
    rw [e3, sOf_append, sOf_append]
    simp
mutual
theorem shown_T : ∀ (t : T) (z : List Nat), reprT t = some z → (dataP t).shown = sOf z ∧ (∀ c ∈ z, c < 1114112) ∧ (dataP t).showable = true ∧ (dataP t).hasDict = false
  | .non, z, h => by cases h; exact ⟨by decide +kernel, by decide, rfl, rfl⟩
  | .bl b, z, h => by cases h; cases b <;> exact ⟨by decide +kernel, by decide, rfl, rfl⟩
  | .int i, z, h => by
    have h : (if -1 ≤ i ∧ i ≤ 9 then some (digS i) else none) = some z := by rw [reprT] at h; exact h
    by_cases hi : -1 ≤ i ∧ i ≤ 9
    · rw [if_pos hi] at h; cases h
      obtain ⟨e, o, l⟩ := str_digS hi
      refine ⟨?_, o.2, ?_, rfl⟩
      · show PyData.shown (.int i) = _
        rw [PyData.shown]; exact e
      · show PyData.showable (.int i) = true
        rw [PyData.showable]; exact decide_eq_true l
    · rw [if_neg hi] at h; cases h
  | .str s, z, h => by
    have h : (if s.all lowC then some (39 :: (s ++ [39])) else none) = some z := by rw [reprT] at h; exact h
    by_cases hs : s.all lowC = true
    · rw [if_pos hs] at h; cases h
      refine ⟨?_, fun c hc => ?_, rfl, rfl⟩
      · show PyData.shown (.str (sOf s)) = _
        rw [PyData.shown]; exact repr_low hs
      · rcases List.mem_cons.mp hc with rfl | hc
        · decide
        · rcases List.mem_append.mp hc with hc | hc
          · have := List.all_eq_true.mp hs c hc
            unfold lowC at this
            rw [Bool.and_eq_true, decide_eq_true_eq, decide_eq_true_eq] at this
            omega
          · rw [List.mem_singleton] at hc; omega
    · rw [if_neg hs] at h; cases h
  | .tup l, z, h => by
    have h : (reprTs l).map (fun zs => 40 :: (joinS [44, 32] zs ++ (if zs.length = 1 then [44, 41] else [41]))) = some z := by rw [reprT] at h; exact h
    obtain ⟨zs, h1, rfl⟩ := Option.map_eq_some_iff.mp h
    obtain ⟨e, o, s, d⟩ := shown_Ts l zs h1
    refine ⟨?_, fun c hc => ?_, ?_, ?_⟩
    · show PyData.shown (.tuple (dataPs l)) = _
      rw [PyData.shown, e]; exact tup_text zs
    · rcases List.mem_cons.mp hc with rfl | hc
      · decide
      · rcases List.mem_append.mp hc with hc | hc
        · rcases joinS_mem [44, 32] hc with hc | ⟨x, hx, hc⟩
          · simp at hc; omega
          · exact o x hx c hc
        · split at hc <;> simp at hc <;> omega
    · show PyData.showable (.tuple (dataPs l)) = true
      rw [PyData.showable]; exact s
    · show PyData.hasDict (.tuple (dataPs l)) = false
      rw [PyData.hasDict]; exact d
  | .und, z, h => by rw [reprT] at h <;> first | cases h | simp
  | .lst _ _, z, h => by rw [reprT] at h <;> first | cases h | simp
  | .dic _ _, z, h => by rw [reprT] at h <;> first | cases h | simp
theorem shown_Ts : ∀ (l : List T) (zs : List (List Nat)), reprTs l = some zs → PyData.shownAll (dataPs l) = zs.map sOf ∧ (∀ z ∈ zs, ∀ c ∈ z, c < 1114112) ∧ PyData.showableAll (dataPs l) = true ∧ PyData.hasDictAll (dataPs l) = false
  | [], zs, h => by
    rw [reprTs] at h; cases h
    exact ⟨rfl, fun z hz => by simp at hz, rfl, rfl⟩
  | a :: r, zs, h => by
    rw [reprTs] at h
    obtain ⟨x, h1, h⟩ := Option.bind_eq_some_iff.mp h
    obtain ⟨ys, h2, rfl⟩ := Option.map_eq_some_iff.mp h
    obtain ⟨a1, a2, a3, a4⟩ := shown_T a x h1
    obtain ⟨b1, b2, b3, b4⟩ := shown_Ts r ys h2
    refine ⟨?_, fun z hz => ?_, ?_, ?_⟩
    · show PyData.shown (dataP a) :: PyData.shownAll (dataPs r) = _
      rw [a1, b1]; rfl
    · rcases List.mem_cons.mp hz with rfl | hz
      · exact a2
      · exact b2 z hz
    · show (PyData.showable (dataP a) && PyData.showableAll (dataPs r)) = true
      rw [a3, b3]; rfl
    · show (PyData.hasDict (dataP a) || PyData.hasDictAll (dataPs r)) = false
      rw [a4, b4]; rfl
end
mutual
theorem depth_T : ∀ (n : Nat) (t : T), dat n t = true → (dataP t).depth ≤ n
  | n, .non, _ => by show PyData.depth .none ≤ n; rw [PyData.depth]; omega
  | n, .bl b, _ => by show PyData.depth (.bool b) ≤ n; rw [PyData.depth]; omega
  | n, .int i, _ => by show PyData.depth (.int i) ≤ n; rw [PyData.depth]; omega
  | n, .str s, _ => by show PyData.depth (.str _) ≤ n; rw [PyData.depth]; omega
  | 0, .tup l, h => by cases h
  | n + 1, .tup l, h => by
    have := depth_Ts n l h
    show PyData.depth (.tuple (dataPs l)) ≤ n + 1
    rw [PyData.depth]; omega
  | n, .und, h => by cases n <;> cases h
  | n, .lst _ _, _ => by show PyData.depth .none ≤ n; rw [PyData.depth]; omega
  | n, .dic _ _, h => by cases n <;> cases h
theorem depth_Ts : ∀ (n : Nat) (l : List T), dats n l = true → PyData.depthAll (dataPs l) ≤ n
  | n, [], _ => by show PyData.depthAll [] ≤ n; rw [PyData.depthAll]; omega
  | n, a :: r, h => by
    have h : (dat n a && dats n r) = true := by cases n <;> exact h
    rw [Bool.and_eq_true] at h
    have h1 := depth_T n a h.1
    have h2 := depth_Ts n r h.2
    show PyData.depthAll (dataP a :: dataPs r) ≤ n
    rw [PyData.depthAll]
    omega
end
/-- a value that reads as data -/
inductive RdV (K : PySem.W.Frag) (H : Hp) : V → PyData → Prop
  | non : RdV K H .non .none
  | bl (b : Bool) : RdV K H (.bl b) (.bool b)
  | int (i : Int) : RdV K H (.int i) (.int i)
  | str (s : Str) : RdV K H (.str s) (.str s)
  | tup {p : Addr} {vs : List V} {ds : List PyData} (h : SqT K H p vs) (hl : vs.length = ds.length) (hs : ∀ (i : Nat) (v : V) (d : PyData), vs[i]? = some v → ds[i]? = some d → RdV K H v d) : RdV K H (.ref p) (.tuple ds)
section
variable {X : Cx} {pins : List (Addr × Obj)} {σ : L2.St} {H : Hp} {s : Shared}
theorem reads_all {h : Heap} : ∀ {us : List Value} {ds : List PyData}, us.length = ds.length → (∀ (i : Nat) (u : Value) (d : PyData), us[i]? = some u → ds[i]? = some d → ∃ as, Reads h u d as) → ∃ as, ReadsAll h us ds as
  | [], [], _, _ => ⟨_, .nil⟩
  | [], _ :: _, e, _ => by simp at e
  | _ :: _, [], e, _ => by simp at e
  | u :: us, d :: ds, e, w => by
    obtain ⟨as, h1⟩ := w 0 u d rfl rfl
    obtain ⟨bs, h2⟩ := reads_all (us := us) (ds := ds) (by simpa using e) fun i u d h1 h2 => w (i + 1) u d (by simpa using h1) (by simpa using h2)
    exact ⟨_, .cons h1 h2⟩
theorem vals_at {vs : List V} {us : List Value} (r : Vals vs us) : ∀ (i : Nat) (u : Value), us[i]? = some u → ∃ v, vs[i]? = some v ∧ RelV v u := by
  induction r with
  | nil => intro i u h; simp at h
  | cons r _ ih =>
    intro i u h
    cases i with
    | zero => simp at h; subst h; exact ⟨_, rfl, r⟩
    | succ i => obtain ⟨v, h1, h2⟩ := ih i u (by simpa using h); exact ⟨v, by simpa using h1, h2⟩
theorem reads_of (I : Inv X pins σ H s) {v : V} {d : PyData} (r : RdV X.K H v d) : ∀ {u : Value}, RelV v u → ∃ as, Reads s.heap u d as := by
  induction r with
  | non => intro u e; cases e; exact ⟨_, .none⟩
  | bl b => intro u e; cases e; exact ⟨_, .bool b⟩
  | int i => rintro u ⟨t, rfl⟩; exact ⟨_, .int i t⟩
  | str z => rintro u ⟨t, rfl⟩; exact ⟨_, .str z t⟩
  | @tup p vs ds h hl hs ih =>
    intro u e
    cases e
    obtain ⟨its, rv, ⟨o, ho, hc, n, hd⟩, _⟩ := I.tuple h
    obtain ⟨as, ra⟩ := reads_all (h := s.heap) (us := its) (ds := ds) (by rw [← rv.length, hl]) fun i u d h1 h2 => by
      obtain ⟨v, h3, h4⟩ := vals_at rv i u h1
      exact ih i v d h3 h2 h4
    exact ⟨_, .tuple ho hc hd (by simpa using ra)⟩
theorem call_str_tup (gu : X.A.guards = some []) (un : X.A.units + 65 < cLine) : CallR X (.type "str") (fun xs H Q => ∃ v d, xs = [v] ∧ (∃ p, v = .ref p) ∧ RdV X.K H v d ∧ d.showable = true ∧ d.hasDict = false ∧ d.depth ≤ 60 ∧ d.shown.length ≤ sizeLine ∧ Q (.str d.shown) H) := by
  intro pins s σ H xs us Q I r h
  obtain ⟨v, d, rfl, ⟨p, rfl⟩, rd, h1, h2, h3, h4, q⟩ := h
  obtain ⟨u, rfl, ru⟩ := vals1 r
  obtain ⟨as, hr⟩ := reads_of I rd ru
  cases ru
  refine str_of_reads (h₀ := s.heap) hr h1 (fun z => by rw [h2] at z; cases z) gu (by omega) (fun _ _ e => e) (fun h' u tk kp => ?_) h4
  exact ⟨.str d.shown, H, I.un (h' := h') (t' := tk) (Un.kept kp) (I.hok.kept kp), ⟨u, rfl⟩, q⟩
end
variable {Z : Rw} {Sh H : Hp} {F : List Addr} {ms : List (Nat × V)} {σ : L2.St} {env : Env} {A : List Addr}
theorem rdv_of {Sh H : Hp} (sub : ∀ {p : Addr} {vs : List V}, SqT Z.K Sh p vs → SqT Z.K H p vs) {v : V} {t : T} (r : Rp Z Sh v t) : ∀ {z : List Nat}, reprT t = some z → RdV Z.K H v (dataP t) := by
  induction r with
  | non => intro z _; exact .non
  | bl b => intro z _; exact .bl b
  | int i => intro z _; exact .int i
  | str s h => intro z _; exact .str _
  | @tup a vs ts h hl hs ih =>
    intro z hz
    rw [reprT] at hz
    obtain ⟨zs, h1, _⟩ := Option.map_eq_some_iff.mp hz
    have len : ∀ l : List T, (dataPs l).length = l.length := by
      intro l; induction l with
      | nil => rfl
      | cons a l ih => show (dataP a :: dataPs l).length = _; simp [ih]
    have each : ∀ (l : List T) (zs : List (List Nat)), reprTs l = some zs → ∀ (i : Nat) (d : PyData), (dataPs l)[i]? = some d → ∃ t z, l[i]? = some t ∧ d = dataP t ∧ reprT t = some z := by
      intro l
      induction l with
      | nil => intro zs _ i d h; simp [dataPs] at h
      | cons a l ihl =>
        intro zs hz i d hd
        rw [reprTs] at hz
        obtain ⟨x, g1, hz⟩ := Option.bind_eq_some_iff.mp hz
        obtain ⟨ys, g2, _⟩ := Option.map_eq_some_iff.mp hz
        cases i with
        | zero => simp [dataPs] at hd; subst hd; exact ⟨a, x, rfl, rfl, g1⟩
        | succ i =>
          obtain ⟨t, z, k1, k2, k3⟩ := ihl ys g2 i d (by simpa [dataPs] using hd)
          exact ⟨t, z, by simpa using k1, k2, k3⟩
    refine .tup (sub h) (by rw [len]; exact hl) fun i v d h2 h3 => ?_
    obtain ⟨t, z, k1, k2, k3⟩ := each ts zs h1 i d h3
    rw [k2]
    exact ih i v t h2 k1 k3
  | _ => intro z h; rw [reprT] at h <;> first | cases h | simp
def rStr1 (K : PySem.W.Frag) : V → Hp → VK → Prop := fun x H Q => (∃ i, x = .int i ∧ i.natAbs.log2 < 1920 ∧ Q (.str (Str.ofString (toString i))) H) ∨ (∃ a, x = .str a ∧ Q (.str a) H) ∨
  ∃ d, (∃ p, x = .ref p) ∧ RdV K H x d ∧ d.showable = true ∧ d.hasDict = false ∧ d.depth ≤ 60 ∧ d.shown.length ≤ sizeLine ∧ Q (.str d.shown) H
theorem cr_str {X : Cx} (gu : X.A.guards = some []) (un : X.A.units + 65 < cLine) : CallR X (.type "str") (one (rStr1 X.K)) := CallR.imp (CallR.or call_str_int (CallR.or call_text_text (call_str_tup gu un))) fun xs H Q ⟨x, e, h⟩ => by
  subst e
  rcases h with ⟨i, rfl, h⟩ | ⟨k, rfl, h⟩ | ⟨d, h1, h⟩
  · exact .inl ⟨i, rfl, h⟩
  · exact .inr (.inl ⟨k, rfl, h⟩)
  · exact .inr (.inr ⟨x, d, rfl, h1, h⟩)
theorem ok_str : Ok1 Z (rStr1 Z.K) (b1T .str) := fun Sh F ms σ H env x ta A t Q s rx hf fin => by
  cases ta with
  | int i =>
    cases rx.intI
    have hf : (if -1 ≤ i ∧ i ≤ 9 then some (T.str (digS i)) else none) = some t := hf
    by_cases h : -1 ≤ i ∧ i ≤ 9
    · rw [if_pos h] at hf; cases hf
      obtain ⟨e, o, z⟩ := str_digS h
      refine .inl ⟨i, rfl, z, ?_⟩
      rw [e]
      exact fin.sh s (.str _ o)
    · rw [if_neg h] at hf; cases hf
  | str z =>
    obtain ⟨rfl, o⟩ := rx.strI
    cases hf
    exact .inr (.inl ⟨_, rfl, fin.sh s (.str _ o)⟩)
  | tup l =>
    have hf : ((reprTs l).bind fun zs => if dat 60 (.tup l) ∧ (40 :: (joinS [44, 32] zs ++ (if zs.length = 1 then [44, 41] else [41]))).length ≤ line then some (T.str (40 :: (joinS [44, 32] zs ++ (if zs.length = 1 then [44, 41] else [41])))) else none) = some t := hf
    obtain ⟨zs, h1, hf⟩ := Option.bind_eq_some_iff.mp hf
    by_cases h : dat 60 (.tup l) ∧ (40 :: (joinS [44, 32] zs ++ (if zs.length = 1 then [44, 41] else [41]))).length ≤ line
    · rw [if_pos h] at hf
      cases hf
      have hz : reprT (.tup l) = some (40 :: (joinS [44, 32] zs ++ (if zs.length = 1 then [44, 41] else [41]))) := by rw [reprT, h1]; rfl
      obtain ⟨e1, e2, e3, e4⟩ := shown_T (.tup l) _ hz
      obtain ⟨p, vs, e, _, _, _⟩ := rx.tupI s
      have rp : Rp Z Sh x (.tup l) := by cases rx with | sh h => exact h
      have hl := line_eq
      refine .inr (.inr ⟨dataP (.tup l), ⟨p, e⟩, rdv_of (fun z => s.sqT z) rp hz, e3, e4, depth_T 60 (.tup l) h.1, ?_, ?_⟩)
      · rw [e1, sOf_length]; have := h.2; omega
      · rw [e1]
        exact fin.sh s (.str _ ⟨h.2, e2⟩)
    · rw [if_neg h] at hf; cases hf
  | _ => cases hf
/-! ### sorted, of texts -/
def rSrt (K : PySem.W.Frag) : V → Hp → VK → Prop := fun x H Q => ∃ (a : Addr) (xs : List Str), x = V.ref a ∧ SqL K H a (xs.map V.str) ∧ xs.length ≤ sizeLine ∧
  ∀ (ys : List Str) (p : Addr), ys.Perm xs → PyProof.Rows.sortedS ys = true → H p = none → Q (.ref p) (upd H p (.lst (ys.map V.str)))
theorem cr_srt {X : Cx} : CallR X (.builtin "sorted") (one (rSrt X.K)) := by
  rintro pins s σ H vs us Q I r ⟨x, rfl, a, xs, rfl, hs, hz, q⟩
  obtain ⟨its, rv, hl, _⟩ := I.list hs
  obtain ⟨u, rfl, ru⟩ := vals1 r
  cases ru
  have len := rv.length
  rw [List.length_map] at len
  refine PyProof.Rows.sorted_strsAny hl.isList rv.strs (by rw [← len]; exact hz) ?_
  intro out ys h1 h2 h3
  obtain ⟨ep, he⟩ := PyProof.Rows.sortedAll_at s.heap its out
  have hlen : (ys.map V.str).length ≤ sizeLine := by rw [List.length_map, h2.length_eq]; exact hz
  exact ⟨.ref _, upd H (s.heap.objs.size + 1) (.lst (ys.map V.str)), I.laid (t' := s.toks) (fun _ _ => PyProof.Rows.sortedAll_old) (Nat.le_succ _) ⟨hlen, out.toList, ep, vals_of_strs h1, he⟩, rfl, q ys _ h2 h3 (I.hok.fresh (Nat.le_succ _))⟩
/-! two sorted lists of the same texts are one -/
theorem ltle {a b c : List Nat} (h : a < b) (h2 : ¬ c < b) : a < c := Classical.byContradiction fun z => h2 (List.lt_of_le_of_lt (List.not_lt.mp z) h)
theorem insS_perm (a : List Nat) : ∀ l : List (List Nat), (insS a l).Perm (a :: l)
  | [] => .refl _
  | b :: r => by
    unfold insS
    split
    · exact ((insS_perm a r).cons b).trans (.swap a b r)
    · exact .refl _
theorem sortS_perm : ∀ l : List (List Nat), (sortS l).Perm l
  | [] => .refl _
  | a :: r => (insS_perm a (sortS r)).trans ((sortS_perm r).cons a)
def upS (l : List (List Nat)) : Prop := l.Pairwise fun a b => ¬ b < a
theorem insS_up (a : List Nat) : ∀ l : List (List Nat), upS l → upS (insS a l)
  | [], _ => List.pairwise_singleton _ _
  | b :: r, h => by
    unfold insS
    have h' := List.pairwise_cons.mp h
    split
    · rename_i hb
      refine List.pairwise_cons.mpr ⟨fun x hx => ?_, insS_up a r h'.2⟩
      rcases List.mem_cons.mp ((insS_perm a r).mem_iff.mp hx) with rfl | hx
      · exact fun z => List.lt_irrefl _ (List.lt_trans z hb)
      · exact h'.1 x hx
    · rename_i hb
      refine List.pairwise_cons.mpr ⟨fun x hx => ?_, h⟩
      rcases List.mem_cons.mp hx with rfl | hx
      · exact hb
      · intro z
        have h1 := h'.1 x hx
        have h2 : ¬ b < a := hb
        exact h2 (List.lt_of_le_of_lt (List.not_lt.mp h1) z)
theorem sortS_up : ∀ l : List (List Nat), upS (sortS l)
  | [] => List.Pairwise.nil
  | a :: r => insS_up a _ (sortS_up r)
theorem up_uniq : ∀ {l m : List (List Nat)}, upS l → upS m → l.Perm m → l = m
  | [], m, _, _, h => (List.Perm.eq_nil h.symm).symm
  | x :: l, [], _, _, h => absurd h.length_eq (by simp)
  | x :: l, y :: m, hl, hm, h => by
    have hl' := List.pairwise_cons.mp hl
    have hm' := List.pairwise_cons.mp hm
    have e : x = y := by
      have h1 : ¬ y < x := by
        rcases List.mem_cons.mp (h.mem_iff.mpr (List.mem_cons_self (a := y) (l := m))) with z | z
        · rw [z]; exact List.lt_irrefl _
        · exact hl'.1 y z
      have h2 : ¬ x < y := by
        rcases List.mem_cons.mp (h.mem_iff.mp (List.mem_cons_self (a := x) (l := l))) with z | z
        · rw [z]; exact List.lt_irrefl _
        · exact hm'.1 x z
      exact List.le_antisymm (List.not_lt.mp h1) (List.not_lt.mp h2)
    subst e
    rw [up_uniq hl'.2 hm'.2 h.cons_inv]
theorem rising_up : ∀ (l : List (List Nat)) (p : List Nat), PyProof.Rows.risingS (sOf p) (l.map sOf) = true → upS (p :: l)
  | [], p, _ => List.pairwise_singleton _ _
  | x :: r, p, h => by
    have h : (!ltCps (sOf x).cps.toList (sOf p).cps.toList && PyProof.Rows.risingS (sOf x) (r.map sOf)) = true := h
    rw [Bool.and_eq_true, Bool.not_eq_true'] at h
    have hx : ¬ x < p := by
      have := h.1
      rw [PyProof.Rows.ltCps_eq] at this
      exact of_decide_eq_false this
    have ih := rising_up r x h.2
    have ih' := List.pairwise_cons.mp ih
    refine List.pairwise_cons.mpr ⟨fun y hy => ?_, ih⟩
    rcases List.mem_cons.mp hy with rfl | hy
    · exact hx
    · intro z
      exact ih'.1 y hy (ltle z hx)
theorem sorted_up : ∀ {l : List (List Nat)}, PyProof.Rows.sortedS (l.map sOf) = true → upS l
  | [], _ => List.Pairwise.nil
  | x :: r, h => rising_up r x h
theorem sOf_back (ys : List Str) : ∃ zs : List (List Nat), ys = zs.map sOf := ⟨ys.map fun y => y.cps.toList, by
  rw [List.map_map]
  have : (sOf ∘ fun y : Str => y.cps.toList) = id := by funext y; cases y; simp [sOf]
  rw [this, List.map_id]⟩
theorem perm_back {zs ss : List (List Nat)} (h : (zs.map sOf).Perm (ss.map sOf)) : zs.Perm ss := by
  have := h.map (fun y : Str => y.cps.toList)
  rw [List.map_map, List.map_map] at this
  have e : ((fun y : Str => y.cps.toList) ∘ sOf) = id := by funext y; simp [sOf]
  rw [e, List.map_id, List.map_id] at this
  exact this
theorem ok_srt : Ok1 Z (rSrt Z.K) (b1T .sorted) := fun Sh F ms σ H env x ta A t Q s rx hf fin => by
  cases ta with
  | lst o l =>
    have hf : (strs? l).bind (fun ss => if ss.length ≤ line then some (T.lst true ((sortS ss).map .str)) else none) = some t := hf
    obtain ⟨ss, h1, hf⟩ := Option.bind_eq_some_iff.mp hf
    by_cases hz : ss.length ≤ line
    · rw [if_pos hz] at hf
      cases hf
      obtain ⟨p, vs, rfl, q, r⟩ := rx.lstI s
      obtain ⟨e, oo⟩ := strs_of r h1
      have hl := line_eq
      rw [e] at q
      refine ⟨p, ss.map sOf, rfl, Rd.sq q, by rw [List.length_map]; omega, fun ys p' hp hs hn => ?_⟩
      obtain ⟨zs, rfl⟩ := sOf_back ys
      have e2 : zs = sortS ss := up_uniq (sorted_up hs) (sortS_up ss) ((perm_back hp).trans (sortS_perm ss).symm)
      rw [e2]
      exact fin.newL s (rl_strs fun z hz => oo z ((sortS_perm ss).mem_iff.mp hz)) hn
    · rw [if_neg hz] at hf; cases hf
  | _ => cases hf
end Vi

set_option autoImplicit false
set_option Elab.async false
set_option linter.all false
set_option maxRecDepth 100000
/-! VI: into a call and out of it. -/
namespace Vi
open PySem PySem.Spec PyProof.Rows L2
/-- the places of values in flight, the last first -/
def FL : List (List Addr) → List Addr
  | [] => []
  | A :: r => FL r ++ A
theorem mem_FL {a : Addr} : ∀ {AA : List (List Addr)}, a ∈ FL AA ↔ ∃ A ∈ AA, a ∈ A
  | [] => by simp [FL]
  | A :: r => by
    rw [FL, List.mem_append, mem_FL]
    simp only [List.mem_cons, exists_eq_or_imp]
    constructor
    · rintro (h | h)
      · exact .inr h
      · exact .inl h
    · rintro (h | h)
      · exact .inr h
      · exact .inl h
theorem nodup_FL : ∀ {AA : List (List Addr)}, (FL AA).Nodup → (∀ (j : Nat) A, AA[j]? = some A → A.Nodup) ∧ ∀ (j l : Nat) A B, j ≠ l → AA[j]? = some A → AA[l]? = some B → ∀ a ∈ A, a ∉ B
  | [], _ => ⟨fun j A h => by simp at h, fun j l A B _ h => by simp at h⟩
  | C :: r, h => by
    rw [FL, List.nodup_append] at h
    obtain ⟨h1, h2, h3⟩ := h
    obtain ⟨i1, i2⟩ := nodup_FL h1
    refine ⟨fun j A e => ?_, fun j l A B hjl e1 e2 a ha hb => ?_⟩
    · cases j with
      | zero => simp at e; subst e; exact h2
      | succ j => exact i1 j A (by simpa using e)
    · cases j with
      | zero =>
        simp at e1; subst e1
        cases l with
        | zero => exact hjl rfl
        | succ l => exact h3 a (mem_FL.mpr ⟨B, List.mem_of_getElem? (by simpa using e2), hb⟩) a ha rfl
      | succ j =>
        cases l with
        | zero => simp at e2; subst e2; exact h3 a (mem_FL.mpr ⟨A, List.mem_of_getElem? (by simpa using e1), ha⟩) a hb rfl
        | succ l => exact i2 j l A B (by omega) (by simpa using e1) (by simpa using e2) a ha hb
/-- what the arguments are -/
inductive ArgsRel (Z : Rw) (σ : L2.St) (Sh H : Hp) : List V → List (T ⊕ Nat) → List (List Addr) → Prop where
  | nil : ArgsRel Z σ Sh H [] [] []
  | val {v : V} {t : T} {A : List Addr} {vs : List V} {as : List (T ⊕ Nat)} {AA : List (List Addr)} (h : Rep Z Sh H v t A) (r : ArgsRel Z σ Sh H vs as AA) : ArgsRel Z σ Sh H (v :: vs) (.inl t :: as) (A :: AA)
  | mu {v : V} {i : Nat} {vs : List V} {as : List (T ⊕ Nat)} {AA : List (List Addr)} (h : σ[i]? = some (some v)) (r : ArgsRel Z σ Sh H vs as AA) : ArgsRel Z σ Sh H (v :: vs) (.inr i :: as) ([] :: AA)
section
variable {Z : Rw} {Sh Sh' H H' : Hp} {F : List Addr} {ms : List (Nat × V)} {σ : L2.St} {env : Env} {vs : List V} {as : List (T ⊕ Nat)} {AA : List (List Addr)} {ts : List T}
theorem ArgsRel.stay (r : ArgsRel Z σ Sh H vs as AA) (a : Aft Sh F H Sh' H') (hA : ∀ x ∈ FL AA, x ∈ F) (hS : ∀ x ∈ F, Sh' x = none) : ArgsRel Z σ Sh' H' vs as AA := by
  induction r with
  | nil => exact .nil
  | val h _ ih => exact .val (h.stay a (fun x hx => hA x (mem_FL.mpr ⟨_, List.mem_cons_self, hx⟩)) hS) (ih fun x hx => hA x (by rw [FL]; exact List.mem_append_left _ hx))
  | mu h _ ih => exact .mu h (ih fun x hx => hA x (by rw [FL]; exact List.mem_append_left _ hx))
theorem ArgsRel.len (r : ArgsRel Z σ Sh H vs as AA) : vs.length = as.length ∧ AA.length = as.length := by
  induction r with
  | nil => exact ⟨rfl, rfl⟩
  | val _ _ ih => simp [ih.1, ih.2]
  | mu _ _ ih => simp [ih.1, ih.2]
/-- one argument -/
theorem ArgsRel.at (r : ArgsRel Z σ Sh H vs as AA) (hts : argsIn as env = some ts) : ∀ (j : Nat) (t : T), ts[j]? = some t →
    (∃ v A, as[j]? = some (.inl t) ∧ vs[j]? = some v ∧ AA[j]? = some A ∧ Rep Z Sh H v t A) ∨ ∃ i v, as[j]? = some (.inr i) ∧ vs[j]? = some v ∧ σ[i]? = some (some v) ∧ (env[i]?).bind id = some t := by
  induction r generalizing ts with
  | nil =>
    have hts : some ([] : List T) = some ts := hts
    cases hts
    intro j t h; simp at h
  | @val v t A vs as AA h _ ih =>
    have hts : (argsIn as env).map (t :: ·) = some ts := hts
    obtain ⟨ts', h1, rfl⟩ := Option.map_eq_some_iff.mp hts
    intro j u hj
    cases j with
    | zero => simp at hj; subst hj; exact .inl ⟨v, A, rfl, rfl, rfl, h⟩
    | succ j => simpa using ih h1 j u (by simpa using hj)
  | @mu v i vs as AA h _ ih =>
    have hts : ((env[i]?).bind id).bind (fun t => (argsIn as env).map (t :: ·)) = some ts := hts
    obtain ⟨t, h0, hts⟩ := Option.bind_eq_some_iff.mp hts
    obtain ⟨ts', h1, rfl⟩ := Option.map_eq_some_iff.mp hts
    intro j u hj
    cases j with
    | zero => simp at hj; subst hj; exact .inr ⟨i, v, rfl, rfl, h, h0⟩
    | succ j => simpa using ih h1 j u (by simpa using hj)
theorem ArgsRel.tlen (r : ArgsRel Z σ Sh H vs as AA) (hts : argsIn as env = some ts) : ts.length = as.length := by
  induction r generalizing ts with
  | nil => have hts : some ([] : List T) = some ts := hts; cases hts; rfl
  | @val v t A vs as AA h _ ih =>
    have hts : (argsIn as env).map (t :: ·) = some ts := hts
    obtain ⟨ts', h1, rfl⟩ := Option.map_eq_some_iff.mp hts
    simp [ih h1]
  | @mu v i vs as AA h _ ih =>
    have hts : ((env[i]?).bind id).bind (fun t => (argsIn as env).map (t :: ·)) = some ts := hts
    obtain ⟨t, h0, hts⟩ := Option.bind_eq_some_iff.mp hts
    obtain ⟨ts', h1, rfl⟩ := Option.map_eq_some_iff.mp hts
    simp [ih h1]
theorem mem_muts {i : Nat} : ∀ {as : List (T ⊕ Nat)}, i ∈ muts as ↔ ∃ j : Nat, as[j]? = some (.inr i)
  | [] => by simp [muts]
  | .inl t :: r => by
    rw [muts, mem_muts]
    constructor
    · rintro ⟨j, h⟩; exact ⟨j + 1, by simpa using h⟩
    · rintro ⟨j, h⟩
      cases j with
      | zero => simp at h
      | succ j => exact ⟨j, by simpa using h⟩
  | .inr k :: r => by
    rw [muts, List.mem_cons, mem_muts]
    constructor
    · rintro (rfl | ⟨j, h⟩)
      · exact ⟨0, rfl⟩
      · exact ⟨j + 1, by simpa using h⟩
    · rintro ⟨j, h⟩
      cases j with
      | zero => simp at h; exact .inl h.symm
      | succ j => exact .inr ⟨j, by simpa using h⟩
theorem nodupN_iff : ∀ {l : List Nat}, nodupN l = true → l.Nodup
  | [], _ => by simp
  | a :: r, h => by
    rw [nodupN, Bool.and_eq_true] at h
    rw [List.nodup_cons]
    exact ⟨by simpa using h.1, nodupN_iff h.2⟩
theorem muts_inj {i : Nat} : ∀ {as : List (T ⊕ Nat)}, (muts as).Nodup → ∀ {j l : Nat}, as[j]? = some (.inr i) → as[l]? = some (.inr i) → j = l
  | [], _, j, l, h, _ => by simp at h
  | .inl t :: r, nd, j, l, h1, h2 => by
    cases j with
    | zero => simp at h1
    | succ j =>
      cases l with
      | zero => simp at h2
      | succ l => exact congrArg (· + 1) (muts_inj (as := r) nd (by simpa using h1) (by simpa using h2))
  | .inr k :: r, nd, j, l, h1, h2 => by
    rw [muts, List.nodup_cons] at nd
    cases j with
    | zero =>
      simp at h1; subst h1
      cases l with
      | zero => rfl
      | succ l => exact (nd.1 (mem_muts.mpr ⟨l, by simpa using h2⟩)).elim
    | succ j =>
      cases l with
      | zero => simp at h2; subst h2; exact (nd.1 (mem_muts.mpr ⟨j, by simpa using h1⟩)).elim
      | succ l => exact congrArg (· + 1) (muts_inj (as := r) nd.2 (by simpa using h1) (by simpa using h2))
theorem outsIn_len : ∀ (as : List (T ⊕ Nat)) (outs env : Env), (outsIn as outs env).length = env.length
  | [], _, _ => by simp [outsIn]
  | .inl _ :: r, [], e => by simp [outsIn]
  | .inr _ :: r, [], e => by simp [outsIn]
  | .inl _ :: r, _ :: os, e => by rw [outsIn]; exact outsIn_len r os e
  | .inr i :: r, o :: os, e => by rw [outsIn, outsIn_len r os]; simp
/-- what the outs leave: a slot that is not handed over, and one that is -/
theorem outsIn_get : ∀ (as : List (T ⊕ Nat)) (outs env : Env) (i : Nat), (muts as).Nodup → outs.length = as.length → i < env.length →
    (i ∉ muts as ∧ (outsIn as outs env)[i]? = env[i]?) ∨ ∃ j : Nat, as[j]? = some (.inr i) ∧ (outsIn as outs env)[i]? = outs[j]?
  | [], outs, env, i, _, _, _ => .inl ⟨by simp [muts], by simp [outsIn]⟩
  | .inl _ :: r, [], e, i, _, h, _ => by simp at h
  | .inr _ :: r, [], e, i, _, h, _ => by simp at h
  | .inl _ :: r, o :: os, e, i, nd, h, hi => by
    rcases outsIn_get r os e i nd (by simpa using h) hi with h1 | ⟨j, h1, h2⟩
    · exact .inl h1
    · exact .inr ⟨j + 1, by simpa using h1, by simpa [outsIn] using h2⟩
  | .inr k :: r, o :: os, e, i, nd, h, hi => by
    rw [muts, List.nodup_cons] at nd
    rcases outsIn_get r os (e.set k o) i nd.2 (by simpa using h) (by simpa using hi) with ⟨h1, h2⟩ | ⟨j, h1, h2⟩
    · by_cases z : k = i
      · subst z
        refine .inr ⟨0, rfl, ?_⟩
        rw [outsIn, h2, List.getElem?_set_self hi]; rfl
      · refine .inl ⟨by rw [muts, List.mem_cons]; rintro (y | y); exact z y.symm; exact h1 y, ?_⟩
        rw [outsIn, h2, List.getElem?_set_ne z]
    · exact .inr ⟨j + 1, by simpa using h1, by simpa [outsIn] using h2⟩
end
end Vi

set_option autoImplicit false
set_option Elab.async false
set_option linter.all false
set_option maxRecDepth 100000
/-! VI: the state of a callee, the caller's state behind it. -/
namespace Vi
open PySem PySem.Spec PyProof.Rows L2
section
variable {Z : Rw} {Sh H : Hp} {F : List Addr} {ms : List (Nat × V)} {σ : L2.St} {env : Env} {vs : List V} {as : List (T ⊕ Nat)} {AA : List (List Addr)} {ts : List T}
/-- slots that are not handed over -/
def restOf (S : Nat → List Addr) (env : Env) (used : List Nat) : List Addr := (List.range env.length).flatMap fun i => if i ∈ used ∨ (env[i]?).bind id = none then [] else S i
theorem mem_rest {S : Nat → List Addr} {used : List Nat} {a : Addr} : a ∈ restOf S env used ↔ ∃ i t, i ∉ used ∧ (env[i]?).bind id = some t ∧ a ∈ S i := by
  unfold restOf
  rw [List.mem_flatMap]
  constructor
  · rintro ⟨i, hi, h⟩
    split at h
    · simp at h
    · rename_i z
      cases e : (env[i]?).bind id with
      | none => exact (z (.inr e)).elim
      | some t => exact ⟨i, t, fun y => z (.inl y), e, h⟩
  · rintro ⟨i, t, h1, h2, h3⟩
    have hi : i < env.length := by
      by_cases z : i < env.length
      · exact z
      · rw [List.getElem?_eq_none (by omega)] at h2; cases h2
    refine ⟨i, List.mem_range.mpr hi, ?_⟩
    rw [if_neg]
    · exact h3
    · rintro (z | z)
      · exact h1 z
      · rw [z] at h2; cases h2
theorem nodup_rest {S : Nat → List Addr} {used : List Nat} (h1 : ∀ i, (S i).Nodup) (h2 : ∀ i j, i ≠ j → ∀ a ∈ S i, a ∉ S j) : (restOf S env used).Nodup := by
  unfold restOf
  have aux : ∀ l : List Nat, l.Nodup → (l.flatMap fun i => if i ∈ used ∨ (env[i]?).bind id = none then [] else S i).Nodup := by
    intro l
    induction l with
    | nil => intro _; simp
    | cons i l ih =>
      intro nd
      rw [List.nodup_cons] at nd
      rw [List.flatMap_cons, List.nodup_append]
      refine ⟨?_, ih nd.2, fun a ha b hb e => ?_⟩
      · split
        · simp
        · exact h1 i
      · subst e
        obtain ⟨j, hj, hb⟩ := List.mem_flatMap.mp hb
        split at ha
        · simp at ha
        · split at hb
          · simp at hb
          · exact h2 i j (fun z => nd.1 (z ▸ hj)) a ha hb
  exact aux _ List.nodup_range
theorem call_in (s : SR Z Sh (FL AA ++ F) ms σ H env) (r : ArgsRel Z σ Sh H vs as AA) (hts : argsIn as env = some ts) (nd : nodupN (muts as) = true) :
    ∃ Fc, SR Z Sh Fc [] (vs.map some) H (ts.map some) ∧ (∀ a ∈ F, a ∈ Fc) ∧
      ∀ (Sh' H' : Hp) (A : List Addr) (outs : Env), SR Z Sh' (A ++ Fc) [] (vs.map some) H' outs → Aft Sh Fc H Sh' H' → SR Z Sh' (A ++ F) ms σ H' (outsIn as outs env) := by
  classical
  obtain ⟨S, h1, h2, h3⟩ := s.slots
  have nd := nodupN_iff nd
  have sf := List.nodup_append.mp s.fr.1
  have fl := nodup_FL sf.1
  have hFL : ∀ a ∈ FL AA, Sh a = none ∧ ∃ o, H a = some o := fun a ha => s.fr.2 a (List.mem_append_left _ ha)
  have tl := r.tlen hts
  have ln := r.len
  let Fc := restOf S env (muts as) ++ F
  have rest_dis : ∀ i, i ∈ muts as → ∀ a ∈ S i, a ∉ restOf S env (muts as) := fun i hi a ha hr => by
    obtain ⟨j, t, q1, q2, q3⟩ := mem_rest.mp hr
    exact h3 i j (fun z => q1 (z ▸ hi)) a ha q3
  have ndFc : Fc.Nodup := List.nodup_append.mpr ⟨nodup_rest (fun i => (h2 i).1) h3, sf.2.1, fun a ha b hb e => by
    obtain ⟨j, t, q1, q2, q3⟩ := mem_rest.mp ha
    exact (h2 j).2 a q3 (List.mem_append_right _ (e ▸ hb))⟩
  have exS : ∀ i t, (env[i]?).bind id = some t → ∀ a ∈ S i, Sh a = none ∧ ∃ o, H a = some o := fun i t e => by
    obtain ⟨v, _, q⟩ := h1 i t e
    exact q.there
  -- the callee's slots
  let C : Nat → List Addr := fun j => match as[j]? with
    | some (.inl _) => (AA[j]?).getD []
    | some (.inr i) => if ((env[i]?).bind id).isSome then S i else []
    | none => []
  have C_mem : ∀ j a, a ∈ C j → (∃ t A, as[j]? = some (.inl t) ∧ AA[j]? = some A ∧ a ∈ A) ∨ ∃ i, as[j]? = some (.inr i) ∧ a ∈ S i := fun j a ha => by
    dsimp only [C] at ha
    split at ha
    · rename_i t e
      cases q : AA[j]? with
      | none => rw [q] at ha; simp at ha
      | some A => rw [q] at ha; exact .inl ⟨t, A, e, rfl, ha⟩
    · rename_i i e
      split at ha
      · exact .inr ⟨i, e, ha⟩
      · simp at ha
    · simp at ha
  have sc : SR Z Sh Fc [] (vs.map some) H (ts.map some) := by
    refine ⟨by rw [List.length_map, List.length_map, tl, ln.1], s.sub, ⟨C, fun j t e => ?_, fun j => ⟨?_, fun a ha hf => ?_⟩, fun j l hjl a ha hb => ?_⟩, ⟨ndFc, fun a ha => ?_⟩, fun p hp => by simp at hp⟩
    · rw [List.getElem?_map] at e
      have e1 : ts[j]? = some t := by
        cases q : ts[j]? with
        | none => rw [q] at e; cases e
        | some w => rw [q] at e; cases e; rfl
      rcases r.at hts j t e1 with ⟨v, A, q1, q2, q3, q4⟩ | ⟨i, v, q1, q2, q3, q4⟩
      · refine ⟨v, by rw [List.getElem?_map, q2]; rfl, ?_⟩
        dsimp only [C]
        rw [q1, q3]
        exact q4
      · refine ⟨v, by rw [List.getElem?_map, q2]; rfl, ?_⟩
        obtain ⟨w, e3, q⟩ := h1 i t q4
        rw [q3] at e3; cases e3
        dsimp only [C]
        rw [q1]
        simp only [q4, Option.isSome_some, if_true]
        exact q
    · dsimp only [C]
      split
      · cases q : AA[j]? with
        | none => simp
        | some A => exact fl.1 j A q
      · split
        · exact (h2 _).1
        · simp
      · simp
    · rcases C_mem j a ha with ⟨t, A, q1, q2, q3⟩ | ⟨i, q1, q2⟩
      · have hm : a ∈ FL AA := mem_FL.mpr ⟨A, List.mem_of_getElem? q2, q3⟩
        rcases List.mem_append.mp hf with hf | hf
        · obtain ⟨k, u, z1, z2, z3⟩ := mem_rest.mp hf
          exact (h2 k).2 a z3 (List.mem_append_left _ hm)
        · exact sf.2.2 a hm a hf rfl
      · rcases List.mem_append.mp hf with hf | hf
        · exact rest_dis i (mem_muts.mpr ⟨j, q1⟩) a q2 hf
        · exact (h2 i).2 a q2 (List.mem_append_right _ hf)
    · rcases C_mem j a ha with ⟨t, A, q1, q2, q3⟩ | ⟨i, q1, q2⟩
      · rcases C_mem l a hb with ⟨u, B, z1, z2, z3⟩ | ⟨k, z1, z2⟩
        · exact fl.2 j l A B hjl q2 z2 a q3 z3
        · exact (h2 k).2 a z2 (List.mem_append_left _ (mem_FL.mpr ⟨A, List.mem_of_getElem? q2, q3⟩))
      · rcases C_mem l a hb with ⟨u, B, z1, z2, z3⟩ | ⟨k, z1, z2⟩
        · exact (h2 i).2 a q2 (List.mem_append_left _ (mem_FL.mpr ⟨B, List.mem_of_getElem? z2, z3⟩))
        · by_cases z : i = k
          · subst z; exact hjl (muts_inj nd q1 z1)
          · exact h3 i k z a q2 z2
    · rcases List.mem_append.mp ha with ha | ha
      · obtain ⟨k, u, z1, z2, z3⟩ := mem_rest.mp ha
        exact exS k u z2 a z3
      · exact s.fr.2 a (List.mem_append_right _ ha)
  refine ⟨Fc, sc, fun a ha => List.mem_append_right _ ha, fun Sh' H' A outs so af => ?_⟩
  -- behind the call
  obtain ⟨D, g1, g2, g3⟩ := so.slots
  have lo : outs.length = as.length := by rw [← so.len, List.length_map]; exact ln.1
  have so_nd := List.nodup_append.mp so.fr.1
  have shN : ∀ a ∈ Fc, Sh' a = none := fun a ha => (so.fr.2 a (List.mem_append_right _ ha)).1
  -- for each slot: its places now
  let E : Nat → List Addr := fun i => if ((outsIn as outs env)[i]?).bind id = none then [] else match (List.range as.length).find? (fun j => decide (as[j]? = some (.inr i))) with
    | some j => D j
    | none => S i
  have fnd : ∀ i j, as[j]? = some (.inr i) → (List.range as.length).find? (fun j => decide (as[j]? = some (.inr i))) = some j := fun i j e => by
    cases q : (List.range as.length).find? (fun j => decide (as[j]? = some (.inr i))) with
    | none =>
      have := List.find?_eq_none.mp q j (List.mem_range.mpr (List.getElem?_eq_some_iff.mp e).1)
      simp [e] at this
    | some k =>
      have := List.find?_some q
      simp only [decide_eq_true_eq] at this
      rw [muts_inj nd e this]
  have fnd0 : ∀ i, i ∉ muts as → (List.range as.length).find? (fun j => decide (as[j]? = some (.inr i))) = none := fun i hi => by
    rw [List.find?_eq_none]
    intro j _ hj
    simp only [decide_eq_true_eq] at hj
    exact hi (mem_muts.mpr ⟨j, hj⟩)
  have lt_of : ∀ {e : Env} {i : Nat} {t : T}, (e[i]?).bind id = some t → i < e.length := fun {e i t} h => by
    by_cases z : i < e.length
    · exact z
    · rw [List.getElem?_eq_none (by omega)] at h; cases h
  -- what stands in a slot
  have slot : ∀ i t, ((outsIn as outs env)[i]?).bind id = some t → (i ∉ muts as ∧ (env[i]?).bind id = some t ∧ E i = S i) ∨ ∃ j : Nat, as[j]? = some (.inr i) ∧ (outs[j]?).bind id = some t ∧ E i = D j := fun i t e => by
    have hi : i < env.length := by have := lt_of e; rwa [outsIn_len] at this
    have en : ¬ ((outsIn as outs env)[i]?).bind id = none := by rw [e]; simp
    rcases outsIn_get as outs env i nd lo hi with ⟨q1, q2⟩ | ⟨j, q1, q2⟩
    · refine .inl ⟨q1, by rw [← q2]; exact e, ?_⟩
      dsimp only [E]
      rw [if_neg en, fnd0 i q1]
    · refine .inr ⟨j, q1, by rw [← q2]; exact e, ?_⟩
      dsimp only [E]
      rw [if_neg en, fnd i j q1]
  have E0 : ∀ i, ((outsIn as outs env)[i]?).bind id = none → E i = [] := fun i h => by dsimp only [E]; rw [if_pos h]
  have inFc : ∀ i t, i ∉ muts as → (env[i]?).bind id = some t → ∀ a ∈ S i, a ∈ Fc := fun i t h e a ha => List.mem_append_left _ (mem_rest.mpr ⟨i, t, h, e, ha⟩)
  refine ⟨by rw [outsIn_len]; exact s.len, so.sub, ⟨E, fun i t e => ?_, fun i => ?_, fun i k hik a ha hb => ?_⟩, ⟨?_, fun a ha => ?_⟩, s.ms⟩
  · rcases slot i t e with ⟨q1, q2, q3⟩ | ⟨j, q1, q2, q3⟩
    · obtain ⟨v, e1, q⟩ := h1 i t q2
      rw [q3]
      refine ⟨v, e1, q.mono af.grow fun a ha => ?_⟩
      have := inFc i t q1 q2 a ha
      exact ⟨af.keep a this, shN a this⟩
    · obtain ⟨v, e1, q⟩ := g1 j t q2
      rw [q3]
      have hj : j < vs.length := by
        have := lt_of q2; rw [lo, ← ln.1] at this; exact this
      have e1' : vs[j]? = some v := by
        rw [List.getElem?_map] at e1
        cases z : vs[j]? with
        | none => rw [z] at e1; cases e1
        | some w => rw [z] at e1; cases e1; rfl
      have hjt : j < ts.length := by rw [tl, ← ln.1]; exact hj
      rcases r.at hts j ts[j] (List.getElem?_eq_getElem hjt) with ⟨w, B, z1, _⟩ | ⟨k, w, z1, z2, z3, _⟩
      · rw [q1] at z1; cases z1
      · rw [q1] at z1; cases z1
        rw [e1'] at z2; cases z2
        exact ⟨v, z3, q⟩
  · cases e : ((outsIn as outs env)[i]?).bind id with
    | none => rw [E0 i e]; simp
    | some t =>
      rcases slot i t e with ⟨q1, q2, q3⟩ | ⟨j, q1, q2, q3⟩
      · rw [q3]
        refine ⟨(h2 i).1, fun a ha hf => ?_⟩
        rcases List.mem_append.mp hf with hf | hf
        · exact so_nd.2.2 a hf a (inFc i t q1 q2 a ha) rfl
        · exact (h2 i).2 a ha (List.mem_append_right _ hf)
      · rw [q3]
        refine ⟨(g2 j).1, fun a ha hf => (g2 j).2 a ha ?_⟩
        rcases List.mem_append.mp hf with hf | hf
        · exact List.mem_append_left _ hf
        · exact List.mem_append_right _ (List.mem_append_right _ hf)
  · cases e : ((outsIn as outs env)[i]?).bind id with
    | none => rw [E0 i e] at ha; simp at ha
    | some t =>
      cases e2 : ((outsIn as outs env)[k]?).bind id with
      | none => rw [E0 k e2] at hb; simp at hb
      | some u =>
        rcases slot i t e with ⟨q1, q2, q3⟩ | ⟨j, q1, q2, q3⟩
        · rw [q3] at ha
          rcases slot k u e2 with ⟨z1, z2, z3⟩ | ⟨l, z1, z2, z3⟩
          · rw [z3] at hb; exact h3 i k hik a ha hb
          · rw [z3] at hb
            exact (g2 l).2 a hb (List.mem_append_right _ (inFc i t q1 q2 a ha))
        · rw [q3] at ha
          rcases slot k u e2 with ⟨z1, z2, z3⟩ | ⟨l, z1, z2, z3⟩
          · rw [z3] at hb
            exact (g2 j).2 a ha (List.mem_append_right _ (inFc k u z1 z2 a hb))
          · rw [z3] at hb
            refine g3 j l (fun z => ?_) a ha hb
            subst z
            rw [q1] at z1; cases z1
            exact hik rfl
  · refine List.nodup_append.mpr ⟨so_nd.1, sf.2.1, fun a ha b hb e => so_nd.2.2 a ha b (List.mem_append_right _ hb) e⟩
  · rcases List.mem_append.mp ha with ha | ha
    · exact so.fr.2 a (List.mem_append_left _ ha)
    · exact so.fr.2 a (List.mem_append_right _ (List.mem_append_right _ ha))
end
end Vi

set_option autoImplicit false
set_option Elab.async false
set_option linter.all false
set_option maxRecDepth 100000
/-! VI: defs that are called where no repr is under way (A.guards = some []): so str(..) of a tuple is told. -/
namespace Vi
open PySem PySem.Spec PyProof.Rows L2
/-- what a def promises, where no repr is under way -/
structure FnG (P : Program) (w : World) (K : PySem.W.Frag) (mg : Str → Option Value) (base : Heap) (CX : CXT) (k : Nat) (f : Addr) (fd : FuncData) (ps : List Str) (sp : Sp) : Prop where
  len : ∀ vs H Q E, sp vs H Q E → vs.length = ps.length
  run : ∀ (A : Around) (outer : List PySem.Env) (s : Shared) (H : Hp) (args : Args) (us : List Value) (vs : List V) (Q : VK) (E : XK), A.guards = some [] → Room k A → Env0 P w K mg base A outer s H →
    BindsTo s fd args (ps.zip us) → Vals vs us → sp vs H Q E → codeAny (model P w) A (.call (.ref f) args) (L2.CR CX outer P w H s Q E) s
section
variable {X : Cx} {CX : CXT} {k : Nat} {f : Addr} {fd : FuncData} {ps : List Str} {sp : Sp} {E : XK} {x : Str} {p pos : Pos} {e : Expr} {es : List Expr} {t : TA}
theorem run_gu {pins : List (Addr × Obj)} {σ : L2.St} {H : Hp} {s : Shared} {Q : VK} {us : List Value} {vs : List V} (gu : X.A.guards = some []) (F : FnG X.prog X.w X.K X.mg X.base CX k f fd ps sp) (rm : Room k X.A) (bd : Binds X.K fd ps []) (px : Passes CX X E)
    (I : Inv X pins σ H s) (rv : Vals vs us) (h : sp (vs ++ []) H Q E) : wpAny (model X.prog X.w) X.A (call (.ref f) us) (EP X pins σ Q) X.xe s := by
  rw [List.append_nil] at h
  have nl : us.length = ps.length := rv.length.symm.trans (F.len vs H Q E h)
  have b2 : BindsTo s fd ⟨us, []⟩ (ps.zip us) := by
    have := bd s us I.kIn (by rw [List.append_nil]; exact nl)
    rwa [List.append_nil] at this
  refine wpAny_call (codeAny_mono (F.run X.A X.stack s H ⟨us, []⟩ us vs Q E gu rm I.env0 b2 rv h) ?_)
  intro res s2 z
  match res, z with
  | .error er, z => exact px pins σ H s er s2 I z
  | .ok (.ret u), z => exact I.after z
  | .ok .next, z => exact False.elim z
  | .ok .brk, z => exact False.elim z
  | .ok .cont, z => exact False.elim z
theorem pe_callGu (gu : X.A.guards = some []) (F : FnG X.prog X.w X.K X.mg X.base CX k f fd ps sp) (rm : Room k X.A) (hg : Gl X x) (hm : X.mg x = some (.ref f)) (hk : PySem.W.keepIn X.K (.ref f) = true) (bd : Binds X.K fd ps []) (px : Passes CX X E)
    (ha : PA X (e :: es) t) (hdb : (x == ("__debug__" : Str)) = false) (he : starEach (e :: es) X.env = (false, eval e X.env) :: starEach es X.env) (hpl : (backTo pos (starEach es X.env)).any (·.1) = false) :
    PE X (.Call (.Name x p) (e :: es) [] pos) (tCall sp [] E t) :=
  ⟨fun pins s σ H Q I h => wpAny_Call_Name_kw (ld_glob I hg hm (PySem.W.callWith_K (h₀ := X.base) I.ok.mod.kin hk (thn (ha.run pos pins s σ H _ I h) fun us s1 ⟨vs, H1, I1, r, q⟩ => ⟨I1.kIn, run_gu gu F rm bd px I1 r q⟩) he hpl) hdb)⟩
theorem pe_callGu0 (gu : X.A.guards = some []) (F : FnG X.prog X.w X.K X.mg X.base CX k f fd ps sp) (rm : Room k X.A) (hg : Gl X x) (hm : X.mg x = some (.ref f)) (hk : PySem.W.keepIn X.K (.ref f) = true) (bd : Binds X.K fd ps []) (px : Passes CX X E)
    (hdb : (x == ("__debug__" : Str)) = false) : PE X (.Call (.Name x p) [] [] pos) (tCall sp [] E tNil) :=
  ⟨fun pins s σ H Q I h => wpAny_Call_Name_kw (ld_glob I hg hm (PySem.W.callWith_K0 I.kIn hk (run_gu (us := []) gu F rm bd px I .nil h)) hdb)⟩
end
/-- a def's body, walked where no repr is under way -/
theorem fun_gu {P : Program} {w : World} {K : PySem.W.Frag} {mg : Str → Option Value} {base : Heap} {nm qual : Str} {params : Arguments} {body : List Stmt} {scope : Scope} {f : Addr} {fd : FuncData} {CX : CXT} {N ps : List Str} {k : Nat} {sp : Sp}
    (D : FunD K nm qual params body scope [] [] f fd) (S : FnScope N ps scope) (len : ∀ vs H Q E, sp vs H Q E → vs.length = ps.length)
    (walk : ∀ (cdv : Value) (A : Around) (outer : List PySem.Env) (s : Shared) (H : Hp) (vs : List V) (Q : VK) (E : XK), (A.deeper (envOfC qual scope s.heap.objs.size f cdv)).guards = some [] → Room k (A.deeper (envOfC qual scope s.heap.objs.size f cdv)) → sp vs H Q E →
      ∃ t, PSs (cxOf CX P w K mg base N qual scope f cdv A outer s H E) body t ∧ t { nx := fun _ H' => Q .non H', rt := Q } (L2.start N vs) H) : FnG P w K mg base CX (k + 1) f fd ps sp := by
  obtain ⟨oc, od, dV, kV, doc, pm, an, cdv, ct, osl, efd, look, hcode, _, _⟩ := D.ex
  subst efd
  constructor
  · exact len
  intro A outer s H args us vs Q E gu rm en bnd rv ask
  have kin : K.In s.heap := en.mod.kin.keeps fun b o q => (en.bs b o q).1
  have nolim : s.heap.NoLimit := en.mod.nolimit.keeps fun b o q => (en.bs b o q).1
  have kinds : ∀ y ∈ ps.zip us, scope.names.lookup y.1 = some .local ∨ (scope.names.lookup y.1 = some .cell ∧ ((cellsFrom (s.heap.objs.size + 1) scope.names []).lookup y.1).isSome = true) := by
    intro y hy
    have hm := S.par y.1 (List.of_mem_zip (a := y.1) (b := y.2) hy).1
    exact hm.imp (fun z => z) fun z => ⟨z, PySem.W.cellsFrom_some _ _ _ (.inl z)⟩
  apply codeAny_call_function rm.depth (kin _ _ look) rfl S.co S.gen rfl (PySem.W.codeRec_of kin hcode)
  apply bnd
  apply wpAny_newFunctionEnv_cells S.kind kinds
  intro env eqe s1 inside
  subst eqe
  refine ⟨nolim.keeps inside.toInCall.keep, codeAny_func ?_⟩
  obtain ⟨t, good, wish⟩ := walk cdv A outer s H vs Q E gu (rm.deeper _) ask
  have I0 : Inv (cxOf CX P w K mg base N qual scope f cdv A outer s H E) [] (L2.start N vs) H s1 := inv_start S rm.hd en (len _ _ _ _ ask) rv inside
  refine wpAny_mono (good.run [] s1 (L2.start N vs) H _ I0 wish) ?_ fun _ _ z => z
  intro fl s2 z
  match fl, z with
  | .ret u, ⟨v, σ2, H2, J, ru, q⟩ => exact ⟨v, H2, J.os, J.bare, J.base, J.hok, ru, q⟩
  | .next, ⟨σ2, H2, J, q⟩ => exact ⟨V.non, H2, J.os, J.bare, J.base, J.hok, rfl, q⟩
  | .brk, ⟨_, _, _, q⟩ => exact q.elim
  | .cont, ⟨_, _, _, q⟩ => exact q.elim
end Vi

set_option autoImplicit false
set_option Elab.async false
set_option linter.all false
set_option maxRecDepth 100000
/-! VI: arguments, calls. -/
namespace Vi
open PySem PySem.Spec PyProof.Rows L2
/-- what a def promises -/
def spV (Z : Rw) (np : Nat) (fc : List T → CR) : Sp := fun vs H Q E => vs.length = np ∧ ∃ Sh F ts, SR Z Sh F [] (vs.map some) H (ts.map some) ∧ match fc ts with
  | .no => False
  | .ret t outs => ∀ v H' Sh' A, SR Z Sh' (A ++ F) [] (vs.map some) H' outs → Rep Z Sh' H' v t A → Aft Sh F H Sh' H' → Q v H'
  | .ex _ _ _ => False
section
variable {X : Cx} {c : Cfg} {xp : Xp (zx X)} {e : E} {a b d : Expr} {pos : Pos} {as : As} {xs : List Expr}
/-- arguments -/
def rG (Z : Rw) (xp : Xp Z) (m : M (List (T ⊕ Nat))) : TA := fun σ H Q => ∃ Sh F ms env, SR Z Sh F ms σ H env ∧
  Out (m env) (fun as env' => ∀ vs H' Sh' AA, SR Z Sh' (FL AA ++ F) ms σ H' env' → ArgsRel Z σ Sh' H' vs as AA → Aft Sh F H Sh' H' → Q vs H') (xp.p Sh F ms H)
theorem ga_nil : PA X [] (rG (zx X) xp (eva c .nil)) := paI pa_nil fun σ H Q ⟨Sh, F, ms, env, sr, out⟩ => (show Out (R.ok [] env) _ _ from out) [] H Sh [] sr .nil Aft.refl
theorem ga_val (h : SE X c xp e a) (hr : PA X xs (rG (zx X) xp (eva c as))) (hs : notStar a = true) : PA X (a :: xs) (rG (zx X) xp (eva c (.val e as))) :=
  paI (pa_cons (pe_frzS h) hr (star_of hs)) fun σ H Q ⟨Sh, F, ms, env, sr, out⟩ => by
    have out : Out ((strong (isRd e) (ev c e) env).bind fun t e => (eva c as e).bind fun l e => R.ok (.inl (fz t) :: l) e) _ _ := out
    refine ⟨Sh, F, ms, env, sr, out.bind.imp (fun t e1 h1 v H1 Sh1 s1 r1 a1 => ?_) fun _ _ _ x => x⟩
    refine ⟨Sh1, F, ms, e1, s1, h1.bind.imp (fun l e2 h2 vs H2 Sh2 AA s2 r2 a2 => ?_) fun _ _ _ x => xp.mono [] a1 x⟩
    exact (show ∀ vs H' Sh' AA, _ from h2) (v :: vs) H2 Sh2 ([] :: AA) (by rw [FL, List.append_nil]; exact s2) (.val (.sh (r1.mono a2.grow)) r2) (a1.trans a2)
theorem ga_tmp (h : SE X c xp e a) (hr : PA X xs (rG (zx X) xp (eva c as))) (hs : notStar a = true) : PA X (a :: xs) (rG (zx X) xp (eva c (.tmp e as))) :=
  paI (pa_cons (pe_strong h) hr (star_of hs)) fun σ H Q ⟨Sh, F, ms, env, sr, out⟩ => by
    have out : Out ((strong (isRd e) (ev c e) env).bind fun t e => (eva c as e).bind fun l e => R.ok (.inl t :: l) e) _ _ := out
    refine ⟨Sh, F, ms, env, sr, out.bind.imp (fun t e1 h1 v H1 Sh1 A s1 r1 a1 => ?_) fun _ _ _ x => x⟩
    refine ⟨Sh1, A ++ F, ms, e1, s1, h1.bind.imp (fun l e2 h2 vs H2 Sh2 AA s2 r2 a2 => ?_) fun _ _ _ x => xp.mono A a1 x⟩
    refine (show ∀ vs H' Sh' AA, _ from h2) (v :: vs) H2 Sh2 (A :: AA) (by rw [FL, List.append_assoc]; exact s2) (.val (r1.stay a2 (fun x hx => List.mem_append_left _ hx) fun x hx => ?_) r2) (a1.trans (a2.less fun x hx => List.mem_append_right _ hx))
    exact (s2.fr.2 x (List.mem_append_right _ hx)).1
theorem ga_mut {i : Nat} (h : PE X a (tVar i)) (hr : PA X xs (rG (zx X) xp (eva c as))) (hs : notStar a = true) : PA X (a :: xs) (rG (zx X) xp (eva c (.mut i as))) :=
  paI (pa_cons h hr (star_of hs)) fun σ H Q ⟨Sh, F, ms, env, sr, out⟩ => by
    have out : Out (match (env[i]?).bind id with
      | some _ => (eva c as env).bind fun l e => R.ok (.inr i :: l) e
      | none => R.no) _ _ := out
    cases q : (env[i]?).bind id with
    | none => rw [q] at out; exact out.elim
    | some t =>
      rw [q] at out
      obtain ⟨v, A, e1, _⟩ := sr.get q
      refine ⟨v, e1, Sh, F, ms, env, sr, (show Out ((eva c as env).bind _) _ _ from out).bind.imp (fun l e2 h2 vs H2 Sh2 AA s2 r2 a2 => ?_) fun _ _ _ x => x⟩
      exact (show ∀ vs H' Sh' AA, _ from h2) (v :: vs) H2 Sh2 ([] :: AA) (by rw [FL, List.append_nil]; exact s2) (.mu e1 r2) a2
/-- a def that may be called -/
structure Callee (X : Cx) (c : Cfg) (f : Nat) (x : Str) where
  CX : CXT
  k : Nat
  fa : Addr
  fd : FuncData
  ps : List Str
  np : Nat
  gu : X.A.guards = some []
  fn : FnG X.prog X.w X.K X.mg X.base CX k fa fd ps (spV (zx X) np (c.call f))
  len : ∀ ts, c.call f ts ≠ .no → ts.length = np
  room : Room k X.A
  hg : Gl X x
  hm : X.mg x = some (.ref fa)
  hk : PySem.W.keepIn X.K (.ref fa) = true
  hb : Binds X.K fd ps []
  hx : Passes CX X (fun _ _ _ => False)
  hdb : (x == ("__debug__" : Str)) = false
theorem call_imp {f : Nat} {x : Str} (C : Callee X c f x) (hex : ∀ Sh F ms H k d e, ¬ xp.p Sh F ms H k d e) : ∀ σ H Q, rS (zx X) xp (ev c (.call f as)) σ H Q → tCall (spV (zx X) C.np (c.call f)) [] (fun _ _ _ => False) (rG (zx X) xp (eva c as)) σ H Q := fun σ H Q ⟨Sh, F, ms, env, sr, out⟩ => by
  have out : Out ((eva c as env).bind fun l e => callM c f l e) _ _ := out
  refine ⟨Sh, F, ms, env, sr, out.bind.imp (fun l e1 h1 vs H1 Sh1 AA s1 r1 a1 => ?_) fun _ _ _ x => x⟩
  unfold callM at h1
  split at h1
  · rename_i ts hts
    split at h1
    · rename_i nd
      obtain ⟨Fc, sc, hF, back⟩ := call_in s1 r1 hts nd
      have hlen : ts.length = vs.length := by rw [r1.tlen hts, r1.len.1]
      refine ⟨?_, Sh1, Fc, ts, by rw [List.append_nil]; exact sc, ?_⟩
      · rw [List.append_nil, ← hlen]
        refine C.len ts fun z => ?_
        rw [z] at h1; exact h1
      · rw [List.append_nil]
        cases q : c.call f ts with
        | no => rw [q] at h1; exact h1
        | ex k d o => rw [q] at h1; exact (hex _ _ _ _ _ _ _ h1).elim
        | ret t outs =>
          rw [q] at h1
          exact fun v H2 Sh2 A s2 r2 a2 => (show ∀ v H' Sh' A, _ from h1) v H2 Sh2 A (back Sh2 H2 A outs s2 a2) r2 (a1.trans (a2.less hF))
    · exact h1.elim
  · exact h1.elim
theorem se_call {f : Nat} {x : Str} {p : Pos} (C : Callee X c f x) (hex : ∀ Sh F ms H k d e, ¬ xp.p Sh F ms H k d e) (h : PA X (a :: xs) (rG (zx X) xp (eva c as))) (hs : starEach (a :: xs) X.env = (false, eval a X.env) :: starEach xs X.env) (hp : ((backTo pos (starEach xs X.env)).any (·.1)) = false) :
    SE X c xp (.call f as) (.Call (.Name x p) (a :: xs) [] pos) :=
  .plain rfl (peI (pe_callGu C.gu C.fn C.room C.hg C.hm C.hk C.hb C.hx h C.hdb hs hp) (call_imp C hex)) (fun _ => rfl)
theorem se_call0 {f : Nat} {x : Str} {p : Pos} (C : Callee X c f x) (hex : ∀ Sh F ms H k d e, ¬ xp.p Sh F ms H k d e) : SE X c xp (.call f .nil) (.Call (.Name x p) [] [] pos) :=
  .plain rfl (peI (pe_callGu0 C.gu C.fn C.room C.hg C.hm C.hk C.hb C.hx C.hdb) fun σ H Q h => by
    obtain ⟨Sh, F, ms, env, sr, out⟩ := call_imp (as := .nil) C hex σ H Q h
    exact (show Out (R.ok [] env) _ _ from out) [] H Sh [] sr .nil Aft.refl) (fun _ => rfl)
end
end Vi

set_option autoImplicit false
set_option Elab.async false
set_option linter.all false
set_option maxRecDepth 100000
/-! VI: what is walked. -/
namespace Vi
open PySem PySem.Spec PyProof.Rows L2
section
variable {X : Cx} {tg : Expr}
/-- an iterator by the value -/
def IterR (X : Cx) (tg : Expr) (r : V → Hp → (L2.It → Hp → Prop) → Prop) : Prop := ∀ (pins : List (Addr × Obj)) (s : Shared) (σ : L2.St) (H : Hp) (x : V) (v : Value) (R : L2.It → Hp → Prop), Inv X pins σ H s → RelV x v → r x H R →
  wpAny (model X.prog X.w) X.A (pyIter v) (PIE X pins σ tg R) X.xe s
theorem IterR.or {r r' : V → Hp → (L2.It → Hp → Prop) → Prop} (h : IterR X tg r) (h' : IterR X tg r') : IterR X tg (fun x H R => r x H R ∨ r' x H R) := fun pins s σ H x v R I rx q => by
  rcases q with q | q
  · exact h pins s σ H x v R I rx q
  · exact h' pins s σ H x v R I rx q
theorem pi_of {e : Expr} {te : TE} {r : V → Hp → (L2.It → Hp → Prop) → Prop} (hr : IterR X tg r) (h : PE X e te) : PI X tg e (fun σ H R => te σ H fun x H1 => r x H1 R) :=
  ⟨fun pins s σ H R I q => thn (h.run pins s σ H _ I q) fun v s1 ⟨x, H1, I1, r1, q1⟩ => hr pins s1 σ H1 x v R I1 r1 q1⟩
theorem ir_list : IterR X tg (fun x H R => ∃ a, x = .ref a ∧ (∃ xs, SqL X.K H a xs) ∧ R (Itl X.K a) H) := fun pins s σ H x v R I rx ⟨a, e, ⟨xs, hq⟩, q⟩ => by
  subst e
  cases rx
  obtain ⟨its, rv, p, hz⟩ := I.list hq
  refine wpAny_pyIter_list p.isList ?_
  refine ⟨s.heap.objs.size, [s.heap.objs.size], _, _, H, rfl, I.kept (t' := s.toks) fun b o e => Heap.get?_push_of_some _ e, turn_list a _, ⟨_, Heap.get?_push_size _ rfl, rfl, rfl⟩, fun b hb => ?_, q⟩
  have e : b = s.heap.objs.size := by simpa using hb
  subst e
  exact I.fpOk (Nat.le_refl _) (I.hok.fresh (Nat.le_refl _))
theorem ir_tup : IterR X tg (fun x H R => ∃ a, x = .ref a ∧ (∃ xs, SqT X.K H a xs) ∧ R (Itt X.K a) H) := fun pins s σ H x v R I rx ⟨a, e, ⟨xs, hq⟩, q⟩ => by
  subst e
  cases rx
  obtain ⟨its, rv, p, hz⟩ := I.tuple hq
  refine wpAny_pyIter_tuple (show s.heap.IsTuple a its.toArray from p) ?_
  refine ⟨s.heap.objs.size, [s.heap.objs.size], _, _, H, rfl, I.kept (t' := s.toks) fun b o e => Heap.get?_push_of_some _ e, turn_tuple a _, ⟨_, Heap.get?_push_size _ rfl, rfl, rfl⟩, fun b hb => ?_, q⟩
  have e : b = s.heap.objs.size := by simpa using hb
  subst e
  exact I.fpOk (Nat.le_refl _) (I.hok.fresh (Nat.le_refl _))
theorem ir_str : IterR X tg (fun x H R => ∃ z, x = .str z ∧ R (Its z) H) := fun pins s σ H x v R I rx ⟨z, e, q⟩ => by
  subst e
  obtain ⟨t, rfl⟩ := rx
  cases ha : z.cps.all (· < 128)
  · exact wpAny_pyIter_wide ha (pi_one (tk := s.toks) I _ (turn_str _ z t "str_iterator" (.inr rfl)) ⟨_, Heap.get?_push_size _ rfl, rfl, rfl⟩ q)
  · exact wpAny_pyIter_ascii ha (pi_one (tk := s.toks) I _ (turn_str _ z t "str_ascii_iterator" (.inl rfl)) ⟨_, Heap.get?_push_size _ rfl, rfl, rfl⟩ q)
/-- J walks l -/
structure Wk (Z : Rw) (Sh : Hp) (J : L2.It) (l : List T) : Prop where
  stop : ∀ (i : Nat) (Sh2 H2 : Hp), Grow Sh Sh2 → Grow Sh2 H2 → l.length ≤ i → J.stop i H2
  go : ∀ (i : Nat) (Sh2 H2 : Hp), Grow Sh Sh2 → Grow Sh2 H2 → i < l.length → J.go i H2
  yld : ∀ (i : Nat) (Sh2 H2 : Hp) (x : V) (H3 : Hp) (F : List Addr) (ms : List (Nat × V)) (σ : L2.St) (env : Env) (t : T), Grow Sh Sh2 → SR Z Sh2 F ms σ H2 env → J.yld i H2 x H3 → l[i]? = some t →
    ∃ Sh3, SR Z Sh3 F ms σ H3 env ∧ Aft Sh2 F H2 Sh3 H3 ∧ Rp Z Sh3 x t
variable {Z : Rw} {Sh H : Hp}
theorem wk_list {a : Addr} {vs : List V} {l : List T} (h : SqL Z.K Sh a vs) (r : RpL Z Sh vs l) : Wk Z Sh (Itl Z.K a) l where
  stop := fun i Sh2 H2 g1 g2 hi => ⟨vs, Grow.sqLL g2 (Grow.sqLL g1 h), by rw [r.1]; exact hi⟩
  go := fun i Sh2 H2 g1 g2 hi => ⟨vs, vs[i]'(by rw [r.1]; exact hi), Grow.sqLL g2 (Grow.sqLL g1 h), List.getElem?_eq_getElem _⟩
  yld := fun i Sh2 H2 x H3 F ms σ env t g s ⟨e, hx⟩ ht => by
    subst e
    have := hx vs (s.sqL (Grow.sqLL g h))
    exact ⟨Sh2, s, Aft.refl, (r.2 i x t this ht).mono g⟩
theorem wk_tup {a : Addr} {vs : List V} {l : List T} (h : SqT Z.K Sh a vs) (r : RpL Z Sh vs l) : Wk Z Sh (Itt Z.K a) l where
  stop := fun i Sh2 H2 g1 g2 hi => ⟨vs, g2.sqT (g1.sqT h), by rw [r.1]; exact hi⟩
  go := fun i Sh2 H2 g1 g2 hi => ⟨vs, vs[i]'(by rw [r.1]; exact hi), g2.sqT (g1.sqT h), List.getElem?_eq_getElem _⟩
  yld := fun i Sh2 H2 x H3 F ms σ env t g s ⟨e, hx⟩ ht => by
    subst e
    have := hx vs (s.sqT (g.sqT h))
    exact ⟨Sh2, s, Aft.refl, (r.2 i x t this ht).mono g⟩
theorem wk_str {z : List Nat} (o : okS z) : Wk Z Sh (Its (sOf z)) (z.map fun c => .str [c]) where
  stop := fun i Sh2 H2 g1 g2 hi => by show (sOf z).cps.size ≤ i; simpa [sOf] using hi
  go := fun i Sh2 H2 g1 g2 hi => by show i < (sOf z).cps.size; simpa [sOf] using hi
  yld := fun i Sh2 H2 x H3 F ms σ env t g s ⟨e, c, hc, hx⟩ ht => by
    subst e
    rw [List.getElem?_map] at ht
    obtain ⟨d, hd, rfl⟩ := Option.map_eq_some_iff.mp ht
    have : c = d := by
      have h2 : (sOf z).cps[i]? = z[i]? := by simp [sOf]
      rw [h2, hd] at hc; cases hc; rfl
    subst this
    rw [hx]
    exact ⟨Sh2, s, Aft.refl, .str [c] (okS_one (o.2 c (List.mem_of_getElem? hd)))⟩
theorem wk_rng (a b : Int) : Wk Z Sh (Itr a (b - a).toNat) (upto a b) where
  stop := fun i Sh2 H2 g1 g2 hi => by show (b - a).toNat ≤ i; simpa [upto] using hi
  go := fun i Sh2 H2 g1 g2 hi => by show i < (b - a).toNat; simpa [upto] using hi
  yld := fun i Sh2 H2 x H3 F ms σ env t g s ⟨e, hx⟩ ht => by
    subst e
    unfold upto at ht
    rw [List.getElem?_map] at ht
    obtain ⟨d, hd, rfl⟩ := Option.map_eq_some_iff.mp ht
    have : d = i := by
      obtain ⟨h1, h2⟩ := List.getElem?_eq_some_iff.mp hd
      simpa using h2.symm
    subst this
    rw [hx]
    exact ⟨Sh2, s, Aft.refl, .int _⟩
/-- an iterator by its meaning -/
def rI (Z : Rw) (xp : Xp Z) (m : M (List T)) : TI := fun σ H R => ∃ Sh F ms env, SR Z Sh F ms σ H env ∧
  Out (m env) (fun l env' => ∀ J H' Sh', SR Z Sh' F ms σ H' env' → Wk Z Sh' J l → Aft Sh F H Sh' H' → R J H') (xp.p Sh F ms H)
theorem piI {e : Expr} {t t' : TI} (h : PI X tg e t) (w : ∀ σ H R, t' σ H R → t σ H R) : PI X tg e t' := ⟨fun pins s σ H R I q => h.run pins s σ H R I (w σ H R q)⟩
variable {c : Cfg} {xp : Xp (zx X)} {a b : Expr} {pos p : Pos} {ea eb : E}
theorem it_of (h : SE X c xp ea a) : PI X tg a (rI (zx X) xp (evi c (.of ea))) := piI (pi_of (IterR.or ir_list (IterR.or ir_tup ir_str)) (pe_frzS h)) fun σ H R ⟨Sh, F, ms, env, sr, out⟩ => by
  have out : Out ((strong (isRd ea) (ev c ea) env).bind fun t e => need (walk? (fz t)) e) _ _ := out
  refine ⟨Sh, F, ms, env, sr, out.bind.imp (fun t e1 h1 v H1 Sh1 s1 r1 a1 => ?_) fun _ _ _ x => x⟩
  obtain ⟨l, hl, q⟩ := out_need h1
  generalize fz t = u at hl r1
  cases r1 with
  | str z o => cases hl; exact .inr (.inr ⟨_, rfl, q _ H1 Sh1 s1 (wk_str o) a1⟩)
  | tup ht hlen hs => cases hl; exact .inr (.inl ⟨_, rfl, ⟨_, s1.sqT ht⟩, q _ H1 Sh1 s1 (wk_tup (Z := zx X) ht ⟨hlen, hs⟩) a1⟩)
  | lst ht hlen hs => cases hl; exact .inl ⟨_, rfl, ⟨_, s1.sqL ht⟩, q _ H1 Sh1 s1 (wk_list (Z := zx X) ht ⟨hlen, hs⟩) a1⟩
  | _ => cases hl
theorem small_of {i : Int} (h : small62 i = true) : -(2 ^ 62) ≤ i ∧ i < 2 ^ 62 := by
  unfold small62 at h
  rw [Bool.and_eq_true, decide_eq_true_eq, decide_eq_true_eq] at h
  omega
theorem it_rng (hg : Gl X "range") (hm : X.mg "range" = none) (h : SE X c xp ea a) (hs : notStar a = true) : PI X tg (.Call (.Name "range" p) [a] [] pos) (rI (zx X) xp (evi c (.rng ea))) :=
  piI (pi_range1 hg hm (pa_cons (pe_strong h) pa_nil (star_of hs)) (star_of hs)) fun σ H R ⟨Sh, F, ms, env, sr, out⟩ => by
    have out : Out ((strong (isRd ea) (ev c ea) env).bind fun t e => need (rngT (.int 0) t) e) _ _ := out
    refine ⟨Sh, F, ms, env, sr, out.bind.imp (fun t e1 h1 v H1 Sh1 A s1 r1 a1 => ?_) fun _ _ _ x => x⟩
    obtain ⟨l, hl, q⟩ := out_need h1
    cases t with
    | int j =>
      cases r1.intI
      have hl : (if (small62 0 && small62 j) = true then some (upto 0 j) else none) = some l := hl
      by_cases h2 : (small62 0 && small62 j) = true
      · rw [if_pos h2] at hl
        cases hl
        rw [Bool.and_eq_true] at h2
        have := small_of h2.2
        refine ⟨j, rfl, this.1, this.2, ?_⟩
        have w := wk_rng (Z := zx X) (Sh := Sh1) 0 j
        rw [show (j - 0).toNat = j.toNat by simp] at w
        exact q _ H1 Sh1 s1.less w a1
      · rw [if_neg h2] at hl; cases hl
    | _ => cases hl
theorem it_rng2 (hg : Gl X "range") (hm : X.mg "range" = none) (h : SE X c xp ea a) (h2 : SE X c xp eb b) (hs : notStar a = true) (hs2 : notStar b = true) : PI X tg (.Call (.Name "range" p) [a, b] [] pos) (rI (zx X) xp (evi c (.rng2 ea eb))) := by
  have e2 : starEach [b] X.env = [(false, eval b X.env)] := star_of hs2
  have e1 : starEach [a, b] X.env = [(false, eval a X.env), (false, eval b X.env)] := (star_of hs).trans (by rw [e2])
  refine piI (pi_range2 hg hm (pa_cons (pe_strong h) (pa_cons (pe_strong h2) pa_nil (star_of hs2)) (star_of hs)) e1 e2) fun σ H R ⟨Sh, F, ms, env, sr, out⟩ => ?_
  have out : Out ((strong (isRd ea) (ev c ea) env).bind fun t e => (strong (isRd eb) (ev c eb) e).bind fun u e => need (rngT t u) e) _ _ := out
  refine ⟨Sh, F, ms, env, sr, out.bind.imp (fun t e1 h1 v H1 Sh1 A s1 r1 a1 => ?_) fun _ _ _ x => x⟩
  refine ⟨Sh1, A ++ F, ms, e1, s1, h1.bind.imp (fun u e2 h3 w H2 Sh2 B s2 r2 a2 => ?_) fun _ _ _ x => xp.mono A a1 x⟩
  obtain ⟨l, hl, q⟩ := out_need h3
  cases t with
  | int i =>
    cases u with
    | int j =>
      have r1' := r1.stay a2 (fun x hx => List.mem_append_left _ hx) (fun x hx => (s2.fr.2 x (List.mem_append_right _ hx)).1)
      cases r1.intI
      cases r2.intI
      have hl : (if (small62 i && small62 j) = true then some (upto i j) else none) = some l := hl
      by_cases h4 : (small62 i && small62 j) = true
      · rw [if_pos h4] at hl
        cases hl
        rw [Bool.and_eq_true] at h4
        have h5 := small_of h4.1
        have h6 := small_of h4.2
        exact ⟨i, j, rfl, ⟨h5.1, h5.2, h6.1, h6.2⟩, q _ H2 Sh2 s2.less.less (wk_rng i j) (a1.trans (a2.less fun x hx => List.mem_append_right _ hx))⟩
      · rw [if_neg h4] at hl; cases hl
    | _ => cases hl
  | _ => cases u <;> cases hl
end
end Vi

set_option autoImplicit false
set_option Elab.async false
set_option linter.all false
set_option maxRecDepth 100000
/-! VI: enumerate(tuple). -/
namespace Vi
open PySem PySem.Spec PyProof.Rows L2
set_option maxHeartbeats 1000000 in
theorem meets_enum_1 {v : Value} {o : Obj} {Hh : Heap → Prop} (B : Begins v o Hh) :
    Meets (Builtin.«enumerate.__new__» ⟨[.type "enumerate", v], []⟩) (fun _ R s => Hh s.heap ∧
      R (.ok (.ret (.ref (s.heap.push o).objs.size))) { s with heap := (s.heap.push o).push { cls := .type "enumerate", data := .fields #[.none, .bool false, .ref s.heap.objs.size, rawInt 0, .none, .none] } }) :=
  .of_wp fun prog w A R s z => by
    obtain ⟨hp, gg, dd, tk, os⟩ := s
    have z1 := z.1
    have z2 := z.2
    have subE := sub_enumerate
    have it1 : ∀ {A' : Around} {E : Value → Shared → Prop} {Q : Value → Shared → Prop}, Q (.ref hp.objs.size) ⟨hp.push o, gg, dd, tk, os⟩ → wpAny (model prog w) A' (pyIter v) Q E ⟨hp, gg, dd, tk, os⟩ := fun q => B.iter prog w _ _ ⟨hp, gg, dd, tk, os⟩ _ z1 q
    wp_walk using it1
    refine wpAny_stack_any fun st => wpAny_pure ?_
    split
    · rename_i cc _ _ _ _ _
      cases (cc == Value.type "enumerate")
      · wp_walk using it1
        exact ⟨_, rfl, z2⟩
      · wp_walk using it1
        exact ⟨_, rfl, z2⟩
    · wp_walk using it1
      exact ⟨_, rfl, z2⟩
section
variable {prog : Program} {w : World} {A : Around} {E : Value → Shared → Prop} {s : Shared}
/-- enumerate(v): its two new cells -/
theorem enum_1 {v : Value} {o : Obj} {Hh : Heap → Prop} {Q : Value → Shared → Prop} (B : Begins v o Hh) (h1 : Hh s.heap)
    (h : ∀ h', IsEnum h' (s.heap.objs.size + 1) s.heap.objs.size 0 .none → h'.get? s.heap.objs.size = some o → (∀ b o, s.heap.get? b = some o → h'.get? b = some o) → Q (.ref (s.heap.objs.size + 1)) { s with heap := h' }) :
    wpAny (model prog w) A (call (.type "enumerate") [v]) Q E s := by
  refine callType_new F.called_enumerate (by decide) (F.typeCall_enumerate_1 _) (F.newCall_enumerate_1 _) (fun obj => F.args_object_init_2 obj _) F.entry_enumerate_new (meets_enum_1 B) ⟨h1, ?_⟩
  have sz : (s.heap.push o).objs.size = s.heap.objs.size + 1 := Heap.size_push ..
  have en : IsEnum ((s.heap.push o).push { cls := .type "enumerate", data := .fields #[.none, .bool false, .ref s.heap.objs.size, rawInt 0, .none, .none] }) (s.heap.objs.size + 1) s.heap.objs.size 0 .none := by
    rw [← sz]
    exact Heap.get?_push_size (s.heap.push o) rfl
  rw [sz]
  exact ⟨⟨_, en, rfl⟩, h _ en (Heap.get?_push_of_some _ (Heap.get?_push_size _ B.free)) fun b u x => Heap.get?_push_of_some _ (Heap.get?_push_of_some _ x)⟩
end
theorem enum_endT {prog : Program} {w : World} {A : Around} {E : Value → Shared → Prop} {s : Shared} {e it t : Addr} {i : Nat} {n : Int} {items : Array Value} {old : Value} {Q : Option Value → Shared → Prop} (hh : A.handled = none)
    (he : IsEnum s.heap e it n old) (hit : s.heap.IsTupleIter it t i) (ht : s.heap.IsTuple t items) (hx : items[i]? = none) (h : ∀ h', Heap.ExtBut it s.heap h' → Q none { s with heap := h' }) : wpAny (model prog w) A (pyNext (.ref e)) Q E s := by
  have ty : s.TypeIs (.ref e) "enumerate" := ⟨_, he, rfl⟩
  have next : wpAny (model prog w) A.in1 (Builtin.«enumerate.__next__» ⟨[.ref e], []⟩) (fun fin s' => ∃ v, fin = .done (.ret v) ∧ False) (fun x s' => wpAny (model prog w) A (isInstance x (.type "StopIteration") >>= fun y => if y = true then pure none else throw x) Q E s') s := by
    show wpAny _ _ (field (.ref e) 2 >>= _) _ _ _
    refine wpAny_bind (wpAny_field he rfl (x := .ref it) rfl ?_)
    refine wpAny_bind (wpAny_nextOf_tuple_end hh hit ht hx ?_)
    rintro h' x hext ⟨o, ho, hc⟩
    exact wpAny_bind (wpAny_isInstance (T := "StopIteration") (b := true) ⟨o, ho, hc⟩ isSubtype_stop (wpAny_pure (h _ hext)))
  unfold pyNext
  refine wpAny_bind (wpAny_attempt (wpAny_callSpecial?_slot (name := Str.ofString "__next__") ty F.slot_enumerate_next (wpAny_call_entry F.slot_enumerate_next ty F.entry_enumerate_next (wpAny_mono next ?_ ?_) (F.args_enumerate_next_1 _))))
  · rintro fin s' ⟨v, _, z⟩; exact z.elim
  · intro x s' z; exact z
/-- the tuple at a as it stands, each item in a new pair -/
def ItE (K : PySem.W.Frag) (a : Addr) : L2.It :=
  ⟨fun i H => ∃ (xs : List V) (x : V), SqT K H a xs ∧ xs[i]? = some x, fun i H v H' => ∃ T x, v = .ref T ∧ H T = none ∧ H' = upd H T (.tup [.int (i : Nat), x]) ∧ ∀ xs, SqT K H a xs → xs[i]? = some x, fun i H => ∃ xs : List V, SqT K H a xs ∧ xs.length ≤ i⟩
theorem turn_enumT {P : Program} {w : World} {K : PySem.W.Frag} {elts : List Expr} {kk : Nat} {tpos : Pos} (a e it : Addr) :
    Turn P w K (.Tuple elts kk tpos) (ItE K a) [e, it] e (fun i h => (∃ old, IsEnum h e it ((i : Nat) : Int) old) ∧ h.IsTupleIter it a i ∧ e ≠ it) where
  mem := List.mem_cons_self
  obj := fun i h st b hb => by
    obtain ⟨⟨old, he⟩, ⟨o, ho, _, hd⟩, _⟩ := st
    simp only [List.mem_cons, List.not_mem_nil, or_false] at hb
    rcases hb with rfl | rfl
    · exact ⟨_, he, fun v q => nomatch q⟩
    · exact ⟨o, ho, fun v q => by rw [hd] at q; cases q⟩
  keep := fun i h h' ⟨⟨old, he⟩, hi, hne⟩ k => ⟨⟨old, k e (by simp) _ he⟩, hi.at fun o q => k it (by simp) o q, hne⟩
  item := by
    intro X hP hw hK hc i pins s σ H E I hf ⟨⟨old, he⟩, hit, hne⟩ ⟨xs, x, hq, hx⟩
    subst hP hw hK
    obtain ⟨its, rv, p, _⟩ := I.tuple hq
    obtain ⟨u, hu, ru⟩ := rv.get hx
    have tp : s.heap.IsTuple a its.toArray := p
    have el : e < s.heap.objs.size := Heap.lt_size he
    have il : it < s.heap.objs.size := by obtain ⟨_, q, _⟩ := hit; exact Heap.lt_size q
    have ea : e ≠ a := by
      intro z; subst z
      obtain ⟨o, ho, hcl, _⟩ := p
      rw [he] at ho
      cases ho
      have hcl : Value.type "enumerate" = Value.type "tuple" := hcl
      exact absurd hcl (by decide)
    have ia : a ≠ it := by
      intro z; subst z
      obtain ⟨o, ho, hcl, _⟩ := p
      obtain ⟨o', ho', hcl', _⟩ := hit
      rw [ho] at ho'
      cases ho'
      rw [hcl] at hcl'
      exact absurd hcl' (by decide)
    have D := Draws.tuple (prog := X.prog) (w := X.w) (A := X.A.in1) (I.ok.hd hc) it a ia its.toArray
    have lt : i < its.toArray.size := by
      have := (List.getElem?_eq_some_iff.mp hu).1
      simpa using this
    refine wpAny_pyNext_enum_itemD D he ⟨hit, tp⟩ lt hne (by simp [hne, ea]) fun y h' tk hy ho st' hT hsz hk => ?_
    have ey : y = u := by
      have : its.toArray[i]? = some u := by simpa using hu
      rw [this] at hy; cases hy; rfl
    subst ey
    refine ⟨_, rfl, wpAny_letOwnedTupleGo_enum (s := { s with heap := h', toks := tk + 1 }) ho fun h'' he' sb => ?_⟩
    have hT2 : h''.get? s.heap.objs.size = some { cls := .type "tuple", data := .seq #[.int i tk, y] } := (sb.2 _ (Nat.ne_of_gt el)).trans hT
    have new : ObjOk X.prog X.w (upd H s.heap.objs.size (.tup [.int (i : Nat), x])) h'' s.heap.objs.size (.tup [.int (i : Nat), x]) :=
      ⟨by show 2 ≤ sizeLine; decide, [.int i tk, y], .cons ⟨_, rfl⟩ (.cons ru .nil), ⟨_, hT2, rfl, _, rfl⟩⟩
    have I1 : Inv X pins σ (upd H s.heap.objs.size (.tup [.int (i : Nat), x])) { s with heap := h'', toks := tk + 1 } :=
      I.turnedNew (ch := [e, it]) (fun b ob hb q => (sb.2 b (fun z => hb (by simp [z]))).trans (hk b ob (fun z => hb (by simp [z])) (fun z => hb (by simp [z])) q)) hf (Nat.le_refl _) new
    refine ⟨.ref s.heap.objs.size, _, I1, rfl, ⟨_, x, rfl, I.hok.fresh (Nat.le_refl _), rfl, fun ys hy => by rw [I.tuple_inj hy hq]; exact hx⟩, ⟨⟨y, ?_⟩, st'.1.at fun o q => (sb.2 it (Ne.symm hne)).trans q, hne⟩, fun b hb => ?_⟩
    · rw [show ((i + 1 : Nat) : Int) = (i : Int) + 1 by omega]; exact he'
    · have hb' : b < s.heap.objs.size := by
        simp only [List.mem_cons, List.not_mem_nil, or_false] at hb
        rcases hb with rfl | rfl
        · exact el
        · exact il
      rw [upd_ne (Nat.ne_of_lt hb')]
      exact (hf b hb).1
  done := by
    intro X hP hw hK hc i pins s σ H E I hf ⟨⟨old, he⟩, hit, hne⟩ ⟨xs, hq, hx⟩
    subst hP hw hK
    obtain ⟨its, rv, p, _⟩ := I.tuple hq
    have tp : s.heap.IsTuple a its.toArray := p
    have ia : a ≠ it := by
      intro z; subst z
      obtain ⟨o, ho, hcl, _⟩ := p
      obtain ⟨o', ho', hcl', _⟩ := hit
      rw [ho] at ho'
      cases ho'
      rw [hcl] at hcl'
      exact absurd hcl' (by decide)
    obtain ⟨f0, f1, f2, f3, f4, f5⟩ := hf it (by simp)
    exact enum_endT (I.ok.hd hc) he hit tp (by rw [List.getElem?_toArray, List.getElem?_eq_none_iff, ← rv.length]; exact hx) fun h' eb => ⟨rfl, I.turned (t' := s.toks) (fun b o hb q => eb b o hb q) f0 f1 f3 f4 f5⟩
  self := fun A i s Q E ⟨⟨_, he⟩, _⟩ h => wpAny_pyIter_enum he h
def iEnT (K : PySem.W.Frag) (ta : TA) : TI := fun σ H R => ta σ H fun vs H1 => ∃ a xs, vs = [.ref a] ∧ SqT K H1 a xs ∧ R (ItE K a) H1
theorem pi_enumT {X : Cx} {e : Expr} {ta : TA} {p pos tpos : Pos} {elts : List Expr} {kk : Nat} (hg : Gl X "enumerate") (hm : X.mg "enumerate" = none) (ha : PA X [e] ta) (hs : starEach [e] X.env = [(false, eval e X.env)]) :
    PI X (.Tuple elts kk tpos) (.Call (.Name "enumerate" p) [e] [] pos) (iEnT X.K ta) := by
  constructor
  intro pins s σ H R I h
  refine Call_ (ld_blt I hg hm boot_enumerate (PyProof.Rows.callWith_type1 (thn (ha.run pos pins s σ H _ I h) ?_) hs rfl))
  rintro us s1 ⟨vs, H1, I1, r1, a, xs, rfl, hq, q⟩
  obtain ⟨u, rfl, ru⟩ := vals1 r1
  cases ru
  obtain ⟨its, rv, pl, _⟩ := I1.tuple hq
  refine enum_1 (begins_tuple a its.toArray) (show s1.heap.IsTuple a its.toArray from pl) fun h' he hit kp => wpAny_pyIter_enum he ?_
  refine ⟨s1.heap.objs.size + 1, [s1.heap.objs.size + 1, s1.heap.objs.size], _, _, H1, rfl, I1.kept (t' := s1.toks) kp, turn_enumT a (s1.heap.objs.size + 1) s1.heap.objs.size, ⟨⟨.none, he⟩, ⟨_, hit, rfl, rfl⟩, Nat.succ_ne_self _⟩, fun b hb => ?_, q⟩
  have hle : s1.heap.objs.size ≤ b := by
    simp only [List.mem_cons, List.not_mem_nil, or_false] at hb
    rcases hb with rfl | rfl
    · exact Nat.le_succ _
    · exact Nat.le_refl _
  exact I1.fpOk hle (I1.hok.fresh hle)
section
variable {Z : Rw} {Sh H : Hp}
theorem enumT_at : ∀ (l : List T) (n i : Nat), (enumT n l)[i]? = (l[i]?).map fun t => T.tup [.int ((n + i : Nat) : Int), t]
  | [], n, i => by simp [enumT]
  | a :: l, n, 0 => by simp [enumT]
  | a :: l, n, i + 1 => by
    show (enumT (n + 1) l)[i]? = _
    rw [enumT_at l (n + 1) i]
    simp only [List.getElem?_cons_succ]
    congr 1
    funext t
    rw [show n + 1 + i = n + (i + 1) by omega]
theorem enumT_len : ∀ (l : List T) (n : Nat), (enumT n l).length = l.length
  | [], n => rfl
  | a :: l, n => by show (enumT (n + 1) l).length + 1 = _; rw [enumT_len l]; rfl
theorem wk_enumT {a : Addr} {vs : List V} {l : List T} (h : SqT Z.K Sh a vs) (r : RpL Z Sh vs l) : Wk Z Sh (ItE Z.K a) (enumT 0 l) where
  stop := fun i Sh2 H2 g1 g2 hi => ⟨vs, g2.sqT (g1.sqT h), by rw [r.1]; rw [enumT_len] at hi; exact hi⟩
  go := fun i Sh2 H2 g1 g2 hi => by
    rw [enumT_len] at hi
    exact ⟨vs, vs[i]'(by rw [r.1]; exact hi), g2.sqT (g1.sqT h), List.getElem?_eq_getElem _⟩
  yld := fun i Sh2 H2 x H3 F ms σ env t g s ⟨p, y, e1, e2, e3, hx⟩ ht => by
    subst e1 e3
    have hy := hx vs (s.sqT (g.sqT h))
    rw [enumT_at] at ht
    obtain ⟨u, hu, rfl⟩ := Option.map_eq_some_iff.mp ht
    have ry := (r.2 i y u hy hu).mono g
    have rl : RpL Z Sh2 [.int ((i : Nat) : Int), y] [.int ((0 + i : Nat) : Int), u] := by
      rw [Nat.zero_add]
      exact RpL.cons (.int _) (RpL.cons ry RpL.nil)
    have rl' := rl.mono (grow_upd (o := .tup [.int ((i : Nat) : Int), y]) (s.sh_none e2))
    exact ⟨upd Sh2 p (.tup [.int ((i : Nat) : Int), y]), s.newSh e2, s.aft_updSh e2, .tup (.inl (.inl upd_same)) rl'.1 rl'.2⟩
variable {X : Cx} {c : Cfg} {xp : Xp (zx X)} {a : Expr} {pos p tpos : Pos} {ea : E} {elts : List Expr} {kk : Nat}
theorem it_enu (hg : Gl X "enumerate") (hm : X.mg "enumerate" = none) (h : SE X c xp ea a) (hs : notStar a = true) : PI X (.Tuple elts kk tpos) (.Call (.Name "enumerate" p) [a] [] pos) (rI (zx X) xp (evi c (.enu ea))) :=
  piI (pi_enumT hg hm (pa_cons (pe_frzS h) pa_nil (star_of hs)) (star_of hs)) fun σ H R ⟨Sh, F, ms, env, sr, out⟩ => by
    have out : Out ((strong (isRd ea) (ev c ea) env).bind fun t e => need ((tup? (fz t)).map (enumT 0)) e) _ _ := out
    refine ⟨Sh, F, ms, env, sr, out.bind.imp (fun t e1 h1 v H1 Sh1 s1 r1 a1 => ?_) fun _ _ _ x => x⟩
    obtain ⟨l, hl, q⟩ := out_need h1
    obtain ⟨l0, h0, rfl⟩ := Option.map_eq_some_iff.mp hl
    generalize fz t = u at h0 r1
    cases r1 with
    | tup ht hlen hs => cases h0; exact ⟨_, _, rfl, s1.sqT ht, q _ H1 Sh1 s1 (wk_enumT (Z := zx X) ht ⟨hlen, hs⟩) a1⟩
    | _ => cases h0
end
end Vi

set_option autoImplicit false
set_option Elab.async false
set_option linter.all false
set_option maxRecDepth 100000
/-! VI: targets. -/
namespace Vi
open PySem PySem.Spec PyProof.Rows L2
/-- alike but for some slots -/
def Same (ns : List Nat) (σ σ' : L2.St) : Prop := σ'.length = σ.length ∧ ∀ j, j ∉ ns → σ'[j]? = σ[j]?
theorem Same.refl {ns : List Nat} {σ : L2.St} : Same ns σ σ := ⟨rfl, fun _ _ => rfl⟩
theorem Same.trans {ns ms : List Nat} {σ σ1 σ2 : L2.St} (a : Same ns σ σ1) (b : Same ms σ1 σ2) : Same (ns ++ ms) σ σ2 := ⟨b.1.trans a.1, fun j h => (b.2 j fun z => h (List.mem_append_right _ z)).trans (a.2 j fun z => h (List.mem_append_left _ z))⟩
section
variable {X : Cx} {M : List Nat} {pos : Pos}
def rTg (Z : Rw) (M : List Nat) (tg : Tg) : TG := fun v σ H Q => ∃ Sh F ms env t, SR Z Sh F ms σ H env ∧ (∀ p ∈ ms, p.1 ∈ M) ∧ Rp Z Sh v t ∧
  Out (asg tg t env) (fun _ env' => ∀ σ', SR Z Sh F ms σ' H env' → Same (tgNames tg) σ σ' → Q σ' H) (fun _ _ _ => False)
def rTgs (Z : Rw) (M : List Nat) (ts : Tgs) : TGs := fun vs σ H Q => ∃ Sh F ms env l, SR Z Sh F ms σ H env ∧ (∀ p ∈ ms, p.1 ∈ M) ∧ RpL Z Sh vs l ∧
  Out (asgs ts l env) (fun _ env' => ∀ σ', SR Z Sh F ms σ' H env' → Same (tgsNames ts) σ σ' → Q σ' H) (fun _ _ _ => False)
theorem pgI {e : Expr} {t t' : TG} (h : PG X e t) (w : ∀ v σ H Q, t' v σ H Q → t v σ H Q) : PG X e t' := ⟨fun pins s σ H v u Q I r q => h.run pins s σ H v u Q I r (w v σ H Q q)⟩
theorem pgsI {e : List Expr} {t t' : TGs} (h : PGs X e t) (w : ∀ v σ H Q, t' v σ H Q → t v σ H Q) : PGs X e t' := ⟨fun pins s σ H v u Q I r q => h.run pins s σ H v u Q I r (w v σ H Q q)⟩
theorem tg_nm {i : Nat} {x : Str} (hN : X.N.Nodup) (hi : X.N[i]? = some x) (hx : Loc X.env.scope x) (hf : X.fn x = true ∨ X.env.scope.names.lookup x = some .local) (hM : i ∉ M) : PG X (.Name x pos) (rTg (zx X) M (.nm i)) :=
  pgI (pg_name hN hi hx hf) fun v σ H Q ⟨Sh, F, ms, env, t, s, hms, r, out⟩ => by
    have out : Out (setVar i t env) _ _ := out
    unfold setVar at out
    by_cases h : i < env.length
    · rw [if_pos h] at out
      have s' : SR (zx X) Sh F ms (σ.set i (some v)) H (env.set i (some t)) := SR.store (A := []) s (.sh r) h fun p hp z => hM (z ▸ hms p hp)
      exact (show ∀ σ', _ → _ → Q σ' H from out) _ s' ⟨List.length_set, fun j hj => List.getElem?_set_ne fun z => hj (by rw [← z]; exact List.mem_singleton_self _)⟩
    · rw [if_neg h] at out; exact out.elim
theorem tgs_nil : PGs X [] (rTgs (zx X) M .nil) := pgsI pgs_nil fun vs σ H Q ⟨Sh, F, ms, env, l, s, hms, r, out⟩ => by
  cases l with
  | nil => exact ⟨r.inv_nil, (show Out (R.ok () env) _ _ from out) σ s Same.refl⟩
  | cons _ _ => exact out.elim
theorem tgs_cons {t : Tg} {ts : Tgs} {e : Expr} {es : List Expr} (h1 : PG X e (rTg (zx X) M t)) (h2 : PGs X es (rTgs (zx X) M ts)) (hs : (assignEach (e :: es) X.env).map (·.2) = assign e X.env :: (assignEach es X.env).map (·.2)) : PGs X (e :: es) (rTgs (zx X) M (.cons t ts)) :=
  pgsI (pgs_cons h1 h2 hs) fun vs σ H Q ⟨Sh, F, ms, env, l, s, hms, r, out⟩ => by
    cases l with
    | nil => exact out.elim
    | cons a l =>
      obtain ⟨v, vr, rfl, r1, r2⟩ := r.inv_cons
      refine ⟨v, vr, rfl, Sh, F, ms, env, a, s, hms, r1, (show Out ((asg t a env).bind fun _ e => asgs ts l e) _ _ from out).bind.imp (fun _ e1 h σ1 s1 m1 => ?_) fun _ _ _ x => x⟩
      exact ⟨Sh, F, ms, e1, l, s1, hms, r2, h.imp (fun _ e2 q σ2 s2 m2 => q σ2 s2 (m1.trans m2)) fun _ _ _ x => x⟩
def tgsLen : Tgs → Nat
  | .nil => 0
  | .cons _ ts => tgsLen ts + 1
theorem asgs_len : ∀ {ts : Tgs} {l : List T} {env : Env} {P : Unit → Env → Prop} {Y : Nat → T → Env → Prop}, Out (asgs ts l env) P Y → ∀ n : Nat, tgsLen ts = n → (Y = fun _ _ _ => False) → l.length = n
  | .nil, [], _, _, _, _, n, h, _ => h
  | .nil, _ :: _, _, _, _, h, _, _, _ => h.elim
  | .cons _ _, [], _, _, _, h, _, _, _ => h.elim
  | .cons t ts, a :: l, env, P, Y, h, n, hn, hY => by
    have h : Out ((asg t a env).bind fun _ e => asgs ts l e) P Y := h
    subst hY
    cases q : asg t a env with
    | no => rw [q] at h; exact h.elim
    | ex k d e => rw [q] at h; exact h.elim
    | ok u e =>
      rw [q] at h
      have := asgs_len (ts := ts) (l := l) (show Out (asgs ts l e) P _ from h) (tgsLen ts) rfl rfl
      rw [← hn, List.length_cons, this]
      rfl
theorem tg_tp {ts : Tgs} {es : List Expr} {k : Nat} (hc : X.calm = true) (h : PGs X es (rTgs (zx X) M ts)) (hn : (assignEach es X.env).length = tgsLen ts) (hst : (assignEach es X.env).findIdx? (·.1) = none) : PG X (.Tuple es k pos) (rTg (zx X) M (.tp ts)) :=
  pgI (pg_tup hc h hn hst) fun v σ H Q ⟨Sh, F, ms, env, t, s, hms, r, out⟩ => by
    cases r with
    | @tup a vs l hq hl hs =>
      have out : Out (asgs ts l env) _ _ := out
      exact ⟨a, vs, rfl, s.sqT hq, by rw [hl]; exact asgs_len out _ rfl rfl, Sh, F, ms, env, l, s, hms, ⟨hl, hs⟩, out⟩
    | _ => exact out.elim
end
end Vi

set_option autoImplicit false
set_option Elab.async false
set_option linter.all false
set_option maxRecDepth 100000
/-! VI: comprehensions. -/
namespace Vi
open PySem PySem.Spec PyProof.Rows L2
/-! ### slots wiped and put back -/
theorem wipe_len (e : Env) : ∀ is : List Nat, (wipe e is).length = e.length
  | [] => rfl
  | i :: is => by rw [wipe, List.length_set, wipe_len e is]
theorem wipe_get {e : Env} {i : Nat} {t : T} : ∀ {is : List Nat}, ((wipe e is)[i]?).bind id = some t → (e[i]?).bind id = some t ∧ i ∉ is
  | [], h => ⟨h, by simp⟩
  | j :: is, h => by
    rw [wipe] at h
    by_cases z : j = i
    · subst z
      by_cases hl : j < (wipe e is).length
      · rw [List.getElem?_set_self hl] at h; cases h
      · rw [List.getElem?_eq_none (by rw [List.length_set]; omega)] at h; cases h
    · rw [List.getElem?_set_ne z] at h
      obtain ⟨h1, h2⟩ := wipe_get h
      exact ⟨h1, by rw [List.mem_cons]; rintro (y | y); exact z y.symm; exact h2 y⟩
theorem back_len (e0 e : Env) : ∀ is : List Nat, (back e0 e is).length = e.length
  | [] => rfl
  | i :: is => by rw [back, List.length_set, back_len e0 e is]
theorem back_get {e0 e : Env} {i : Nat} {t : T} : ∀ {is : List Nat}, ((back e0 e is)[i]?).bind id = some t → (i ∉ is ∧ (e[i]?).bind id = some t) ∨ (i ∈ is ∧ (e0[i]?).bind id = some t)
  | [], h => .inl ⟨by simp, h⟩
  | j :: is, h => by
    rw [back] at h
    by_cases z : j = i
    · subst z
      by_cases hl : j < (back e0 e is).length
      · rw [List.getElem?_set_self hl] at h
        exact .inr ⟨List.mem_cons_self, h⟩
      · rw [List.getElem?_eq_none (by rw [List.length_set]; omega)] at h; cases h
    · rw [List.getElem?_set_ne z] at h
      rcases back_get h with ⟨h1, h2⟩ | ⟨h1, h2⟩
      · exact .inl ⟨by rw [List.mem_cons]; rintro (y | y); exact z y.symm; exact h1 y, h2⟩
      · exact .inr ⟨List.mem_cons_of_mem _ h1, h2⟩
section
variable {Z : Rw} {Sh Sh' H H' : Hp} {F F' : List Addr} {ms : List (Nat × V)} {σ σ2 : L2.St} {env e0 e : Env} {own : List Nat}
theorem SR.wiped (s : SR Z Sh F ms σ H env) (own : List Nat) : SR Z Sh F [] (L2.wipe σ own) H (wipe env own) := by
  obtain ⟨S, h1, h2, h3⟩ := s.slots
  refine ⟨by rw [wipe_length, wipe_len]; exact s.len, s.sub, ⟨S, fun i t e => ?_, h2, h3⟩, s.fr, fun p hp => by simp at hp⟩
  obtain ⟨q1, q2⟩ := wipe_get e
  obtain ⟨v, e1, r⟩ := h1 i t q1
  exact ⟨v, by rw [wipe_out q2]; exact e1, r⟩
/-- the state behind a block -/
theorem SR.backTo (s0 : SR Z Sh F ms σ H e0) (s2 : SR Z Sh' F' [] σ2 H' e) (g : Grow Sh Sh') (hw : L2.wipe σ2 own = L2.wipe σ own) (hp : plainAt e0 own = true) : SR Z Sh' F' ms σ H' (back e0 e own) := by
  obtain ⟨S, h1, h2, h3⟩ := s2.slots
  obtain ⟨S0, g1, _, _⟩ := s0.slots
  have hl : σ2.length = σ.length := by have := congrArg List.length hw; rwa [wipe_length, wipe_length] at this
  refine ⟨by rw [back_len, ← s2.len]; exact hl.symm, s2.sub, ⟨fun i => if i ∈ own then [] else S i, fun i t q => ?_, fun i => ?_, fun i j hij a ha hb => ?_⟩, s2.fr, s0.ms⟩
  · rcases back_get q with ⟨q1, q2⟩ | ⟨q1, q2⟩
    · obtain ⟨v, e1, r⟩ := h1 i t q2
      refine ⟨v, ?_, by simp only [if_neg q1]; exact r⟩
      rw [← wipe_out (σ := σ) q1, ← hw, wipe_out q1]
      exact e1
    · obtain ⟨v, e1, r⟩ := g1 i t q2
      refine ⟨v, e1, ?_⟩
      simp only [if_pos q1]
      have ho : own ≠ [] := fun z => by rw [z] at q1; simp at q1
      have : (match (e0[i]?).bind id with | some t => !Vi.own t | none => true) = true := List.all_eq_true.mp hp i q1
      rw [q2] at this
      have hn : Vi.own t = false := by simpa using this
      exact .sh ((r.shared hn).1.mono g)
  · dsimp only
    split
    · simp
    · exact h2 i
  · dsimp only at ha hb
    split at ha
    · simp at ha
    · split at hb
      · simp at hb
      · exact h3 i j hij a ha hb
theorem wipe_idem : ∀ {σ σ' : L2.St} {own : List Nat}, σ'.length = σ.length → (∀ j, j ∉ own → σ'[j]? = σ[j]?) → L2.wipe σ' own = L2.wipe σ own := fun {σ σ' own} hl h => by
  have get : ∀ (τ : L2.St) (is : List Nat) (j : Nat), (L2.wipe τ is)[j]? = if j ∈ is then (if j < τ.length then some none else none) else τ[j]? := by
    intro τ is j
    induction is with
    | nil => simp [L2.wipe]
    | cons i is ih =>
      rw [L2.wipe]
      by_cases z : i = j
      · subst z
        rw [if_pos List.mem_cons_self]
        by_cases hlt : i < τ.length
        · rw [List.getElem?_set_self (by rw [wipe_length]; exact hlt), if_pos hlt]
        · rw [List.getElem?_eq_none (by rw [List.length_set, wipe_length]; omega), if_neg hlt]
      · rw [List.getElem?_set_ne z, ih]
        by_cases y : j ∈ is
        · rw [if_pos y, if_pos (List.mem_cons_of_mem _ y)]
        · rw [if_neg y, if_neg (by rw [List.mem_cons]; rintro (x | x); exact z x.symm; exact y x)]
  apply List.ext_getElem?
  intro j
  rw [get, get, hl]
  by_cases y : j ∈ own
  · rw [if_pos y, if_pos y]
  · rw [if_neg y, if_neg y, h j y]
theorem wipe_twice {σ : L2.St} {own : List Nat} : L2.wipe (L2.wipe σ own) own = L2.wipe σ own := wipe_idem (wipe_length _ _) fun j h => wipe_out h
end
/-! ### tests -/
section
variable {X : Cx} {c : Cfg} {xp : Xp (zx X)} {a : Expr} {ea : E}
def rTt (Z : Rw) (xp : Xp Z) (m : M Bool) : TT := fun σ H Q => ∃ Sh F ms env, SR Z Sh F ms σ H env ∧
  Out (m env) (fun b env' => ∀ H' Sh', SR Z Sh' F ms σ H' env' → Aft Sh F H Sh' H' → Q b H') (xp.p Sh F ms H)
theorem ptsI {es : List Expr} {t t' : TT} (h : PTs X es t) (w : ∀ σ H Q, t' σ H Q → t σ H Q) : PTs X es t' := ⟨fun pins s σ H Q I q => h.run pins s σ H Q I (w σ H Q q)⟩
theorem tt_nil : PTs X [] (rTt (zx X) xp (evT c .nil)) := ptsI pts_nil fun σ H Q ⟨Sh, F, ms, env, s, out⟩ => (show Out (R.ok true env) _ _ from out) H Sh s Aft.refl
theorem tt_one (h : SE X c xp ea a) : PTs X [a] (rTt (zx X) xp (evT c (.cons ea .nil))) := ptsI (pts_one h.t) fun σ H Q ⟨Sh, F, ms, env, s, out⟩ => by
  have out : Out ((opd (isRd ea) (ev c ea) env).bind fun o e => (fin1 o (fun t => (tru t).map .bl) e).bind fun t e => match t with
    | .bl true => evT c .nil e
    | .bl false => .ok false e
    | _ => .no) _ _ := out
  have o2 := testM_of (nq := opd (isRd ea) (ev c ea)) (k := fun t e => match t with
    | .bl true => evT c .nil e
    | .bl false => .ok false e
    | _ => .no) out
  refine ⟨Sh, F, ms, env, s, o2.imp (fun b e1 h1 H1 Sh1 s1 a1 => ?_) fun _ _ _ x => x⟩
  cases b with
  | true => exact (show Out (R.ok true e1) _ _ from h1) H1 Sh1 s1 a1
  | false => exact (show Out (R.ok false e1) _ _ from h1) H1 Sh1 s1 a1
/-- what is within a block: no exception leaves it -/
def mElt (c : Cfg) (e : E) : M T := strong (isRd e) (ev c e)
def lcBody (c : Cfg) (tg : Tg) (ifs : Es) (elt : E) : T → M (Option T) := fun x e => (asg tg x e).bind fun _ e => (evT c ifs e).bind fun b e =>
  if b then (strong (isRd elt) (ev c elt) e).bind fun t e => .ok (some (fz t)) e else .ok none e
theorem noEx_out {α : Type} {r : R α} {P : α → Env → Prop} {Y : Nat → T → Env → Prop} (h : Out (noEx r) P Y) : Out r P (fun _ _ _ => False) := by
  cases r with
  | no => exact h
  | ok a e => exact h
  | ex k d e => exact h
/-- the turns of a block, from a state -/
structure LcW (Z : Rw) (Sh1 H1 : Hp) (F : List Addr) (σ : L2.St) (own : List Nat) (D : Addr) (l : List T) (body : T → M (Option T)) (P : List T → Env → Prop) (i : Nat) (H : Hp) : Prop where
  st : ∃ Sh e acc accV, SR Z Sh (D :: F) [] (L2.wipe σ own) H (wipe e own) ∧ H D = some (.lst accV) ∧ RpL Z Sh accV acc ∧ Aft Sh1 F H1 Sh H ∧ i ≤ l.length ∧ Out (turns own body (l.drop i) acc e) P (fun _ _ _ => False)
theorem lc_imp {J : L2.It} {l : List T} {Z : Rw} {Sh1 H1 : Hp} {F : List Addr} {ms : List (Nat × V)} {σ : L2.St} {e0 : Env} {own : List Nat} {tg : Tg} {ifs : Es} {elt : E} {D : Addr} {Q : VK}
    (s0 : SR Z Sh1 F ms σ H1 e0) (w : Wk Z Sh1 J l) (hp : plainAt e0 own = true) (ht : tgIn tg own = true) (hD : H1 D = none)
    (out : Out (turns own (lcBody c tg ifs elt) l [] e0) (fun acc e => ∀ H' Sh' accV, SR Z Sh' (D :: F) [] (L2.wipe σ own) H' (wipe e own) → H' D = some (.lst accV) → RpL Z Sh' accV acc → Aft Sh1 F H1 Sh' H' → Q (.ref D) H') (fun _ _ _ => False)) :
    ∃ W : Nat → Nat → Hp → Prop, (∃ m, W 0 m (upd H1 D (.lst []))) ∧ ∀ i m H, W i m H →
      (J.stop i H ∧ Q (.ref D) H) ∨ (J.go i H ∧ ∃ Nx : Hp → Prop, (∀ H', Nx H' → ∃ m', m' < m ∧ W (i + 1) m' H') ∧ ∀ x H', J.yld i H x H' → rTg Z [] tg x (L2.wipe σ own) H' fun σ2 H2 => L2.wipe σ2 own = L2.wipe σ own ∧ rTt Z (Xp.none Z) (evT c ifs) σ2 H2 fun b H3 =>
        if b = true then rF Z (Xp.none Z) (mElt c elt) σ2 H3 fun y H4 => ∃ acc, H4 D = some (.lst acc) ∧ acc.length < sizeLine ∧ Nx (upd H4 D (.lst (acc ++ [y]))) else Nx H3) := by
  have hz := line_eq
  generalize hP : (fun (acc : List T) (e : Env) => ∀ H' Sh' accV, SR Z Sh' (D :: F) [] (L2.wipe σ own) H' (wipe e own) → H' D = some (.lst accV) → RpL Z Sh' accV acc → Aft Sh1 F H1 Sh' H' → Q (.ref D) H') = P at out
  refine ⟨fun i m H => m = l.length - i ∧ LcW Z Sh1 H1 F σ own D l (lcBody c tg ifs elt) P i H, ⟨l.length, by simp, ⟨Sh1, e0, [], [], ?_, upd_same, RpL.nil, s0.aft_upd hD, Nat.zero_le _, by simpa using out⟩⟩, ?_⟩
  · exact SR.new (s0.wiped own) hD
  rintro i m H ⟨rfl, ⟨Sh, e, acc, accV, s, hd, racc, af, hi, out⟩⟩
  by_cases hlt : i < l.length
  · refine .inr ⟨w.go i Sh H af.grow s.sub hlt, fun H' => LcW Z Sh1 H1 F σ own D l (lcBody c tg ifs elt) P (i + 1) H', fun H' q => ⟨l.length - (i + 1), by omega, rfl, q⟩, fun x H' y => ?_⟩
    have hx : l[i]? = some l[i] := List.getElem?_eq_getElem hlt
    obtain ⟨Sh3, s3, a3, r3⟩ := w.yld i Sh H x H' (D :: F) [] (L2.wipe σ own) (wipe e own) l[i] af.grow s y hx
    have hd3 : H' D = some (.lst accV) := (a3.keep D List.mem_cons_self).trans hd
    rw [List.drop_eq_getElem_cons hlt] at out
    have out : Out ((lcBody c tg ifs elt l[i] (wipe e own)).bind fun o e => match o with
      | some t => if acc.length < line then turns own (lcBody c tg ifs elt) (l.drop (i + 1)) (acc ++ [t]) e else .no
      | none => turns own (lcBody c tg ifs elt) (l.drop (i + 1)) acc e) P (fun _ _ _ => False) := out
    have out := (show Out ((asg tg l[i] (wipe e own)).bind _) _ _ from out.bind).bind
    refine ⟨Sh3, D :: F, [], wipe e own, l[i], s3, fun p hp => by simp at hp, r3, out.imp (fun _ e1 h1 σ' s4 m4 => ?_) fun _ _ _ x => x⟩
    have hw : L2.wipe σ' own = L2.wipe σ own := by
      rw [← wipe_twice (σ := σ)]
      refine wipe_idem m4.1 fun j hj => m4.2 j fun z => hj ?_
      have := List.all_eq_true.mp ht j z
      simpa using this
    refine ⟨hw, Sh3, D :: F, [], e1, s4, (show Out ((evT c ifs e1).bind _) _ _ from h1).bind.imp (fun b e2 h2 H5 Sh5 s5 a5 => ?_) fun _ _ _ x => x⟩
    have hd5 : H5 D = some (.lst accV) := (a5.keep D List.mem_cons_self).trans hd3
    have a15 : Aft Sh1 F H1 Sh5 H5 := af.trans ((a3.trans a5).less fun z hz => List.mem_cons_of_mem _ hz)
    cases b with
    | false =>
      dsimp only
      rw [if_neg Bool.false_ne_true]
      refine ⟨Sh5, e2, acc, accV, ?_, hd5, racc.mono fun a o z => a5.grow a o (a3.grow a o z), a15, hlt, h2⟩
      have := s5.wiped own
      rwa [hw] at this
    | true =>
      dsimp only
      rw [if_pos rfl]
      have h2 : Out ((strong (isRd elt) (ev c elt) e2).bind fun t e => R.ok (some (fz t)) e) _ _ := h2
      refine ⟨Sh5, D :: F, [], e2, s5, h2.bind.imp (fun t e6 h6 y H6 Sh6 s6 r6 a6 => ?_) fun _ _ _ x => x⟩
      have h6 : Out (if acc.length < line then turns own (lcBody c tg ifs elt) (l.drop (i + 1)) (acc ++ [fz t]) e6 else .no) P (fun _ _ _ => False) := h6
      by_cases hacc : acc.length < line
      · rw [if_pos hacc] at h6
        have hd6 : H6 D = some (.lst accV) := (a6.keep D List.mem_cons_self).trans hd5
        refine ⟨accV, hd6, by rw [racc.1, ← hz]; exact hacc, Sh6, e6, acc ++ [fz t], accV ++ [y], ?_, upd_same, ?_, ?_, hlt, h6⟩
        · have s7 := s6.wiped own
          rw [hw] at s7
          have hDS : Sh6 D = none := (s6.fr.2 D List.mem_cons_self).1
          have ndF := List.nodup_cons.mp s6.fr.1
          exact SR.step (A := [D]) (A' := [D]) s7 (fun _ _ z => z) (fun a o z => by rw [upd_ne (ne_of_none z hDS)]; exact s7.sub a o z) (fun a ha _ => ⟨upd_ne (by simpa using ha), fun z => z⟩)
            (fun a ha => by obtain rfl : a = D := by simpa using ha
                            exact ⟨.inl (by simp), hDS, _, upd_same⟩) (by simp)
        · exact (racc.mono fun a o z => a6.grow a o (a5.grow a o (a3.grow a o z))).append (RpL.nil.cons r6)
        · refine ⟨fun a o z => a6.grow a o (a15.grow a o z), fun a ha => ?_⟩
          have ndF := List.nodup_cons.mp s6.fr.1
          have hne : a ≠ D := fun z => ndF.1 (z ▸ ha)
          rw [upd_ne hne]
          exact (a6.keep a (List.mem_cons_of_mem _ ha)).trans (a15.keep a ha)
      · rw [if_neg hacc] at h6; exact h6.elim
  · have e1 : i = l.length := by omega
    subst e1
    rw [List.drop_length] at out
    subst hP
    exact .inl ⟨w.stop _ Sh H af.grow s.sub (Nat.le_refl _), (show ∀ H' Sh' accV, _ from out) H Sh accV s hd racc af⟩
theorem wipe_get' (e : Env) (is : List Nat) (j : Nat) : (wipe e is)[j]? = if j ∈ is then (if j < e.length then some none else none) else e[j]? := by
  induction is with
  | nil => simp [wipe]
  | cons i is ih =>
    rw [wipe]
    by_cases z : i = j
    · subst z
      rw [if_pos List.mem_cons_self]
      by_cases hlt : i < e.length
      · rw [List.getElem?_set_self (by rw [wipe_len]; exact hlt), if_pos hlt]
      · rw [List.getElem?_eq_none (by rw [List.length_set, wipe_len]; omega), if_neg hlt]
    · rw [List.getElem?_set_ne z, ih]
      by_cases y : j ∈ is
      · rw [if_pos y, if_pos (List.mem_cons_of_mem _ y)]
      · rw [if_neg y, if_neg (by rw [List.mem_cons]; rintro (x | x); exact z x.symm; exact y x)]
theorem back_get' (e0 e : Env) (is : List Nat) (j : Nat) : (back e0 e is)[j]? = if j ∈ is then (if j < e.length then some ((e0[j]?).bind id) else none) else e[j]? := by
  induction is with
  | nil => simp [back]
  | cons i is ih =>
    rw [back]
    by_cases z : i = j
    · subst z
      rw [if_pos List.mem_cons_self]
      by_cases hlt : i < e.length
      · rw [List.getElem?_set_self (by rw [back_len]; exact hlt), if_pos hlt]
      · rw [List.getElem?_eq_none (by rw [List.length_set, back_len]; omega), if_neg hlt]
    · rw [List.getElem?_set_ne z, ih]
      by_cases y : j ∈ is
      · rw [if_pos y, if_pos (List.mem_cons_of_mem _ y)]
      · rw [if_neg y, if_neg (by rw [List.mem_cons]; rintro (x | x); exact z x.symm; exact y x)]
theorem back_wipe (e0 e : Env) (is : List Nat) : back e0 (wipe e is) is = back e0 e is := by
  apply List.ext_getElem?
  intro j
  rw [back_get', back_get', wipe_len, wipe_get']
  by_cases y : j ∈ is
  · rw [if_pos y, if_pos y]
  · rw [if_neg y, if_neg y, if_neg y]
/-- the last state of a block, and its value -/
theorem lc_end {Z : Rw} {Sh Sh1 H H1 : Hp} {F : List Addr} {ms : List (Nat × V)} {σ : L2.St} {e0 e : Env} {own : List Nat} {D : Addr} {Q : VK} {acc : List T} (s0 : SR Z Sh1 F ms σ H1 e0) (hp : plainAt e0 own = true) (a1 : Aft Sh F H Sh1 H1)
    (h : Out (R.ok (T.lst true acc) (back e0 e own)) (fun t env' => ∀ v H' Sh' A, SR Z Sh' (A ++ F) ms σ H' env' → Rep Z Sh' H' v t A → Aft Sh F H Sh' H' → Q v H') (fun _ _ _ => False)) :
    ∀ H' Sh' accV, SR Z Sh' (D :: F) [] (L2.wipe σ own) H' (wipe e own) → H' D = some (.lst accV) → RpL Z Sh' accV acc → Aft Sh1 F H1 Sh' H' → Q (.ref D) H' := fun H' Sh' accV s2 hd r af => by
  have s3 := SR.backTo s0 s2 af.grow wipe_twice hp
  rw [back_wipe] at s3
  exact (show ∀ v H' Sh' A, _ from h) _ H' Sh' [D] s3 (.lst hd (s2.fr.2 D List.mem_cons_self).1 r) (a1.trans af)
variable {tg : Tg} {ifs : Es} {elt : E} {it : Vi.It} {own : List Nat} {etg iter eelt : Expr} {eifs : List Expr} {scope : Scope} {pos : Pos}
theorem lc_read : ∀ σ H Q, rS (zx X) xp (ev c (.lc elt tg it ifs own)) σ H Q → tLc (rI (zx X) xp (evi c it)) (rTg (zx X) [] tg) (rTt (zx X) (Xp.none (zx X)) (evT c ifs)) (rF (zx X) (Xp.none (zx X)) (mElt c elt)) own σ H Q := fun σ H Q ⟨Sh, F, ms, env, sr, out⟩ => by
  have out : Out ((evi c it env).bind fun l e0 => if (plainAt e0 own && tgIn tg own) = true then noEx ((turns own (lcBody c tg ifs elt) l [] e0).bind fun acc e => .ok (T.lst true acc) (back e0 e own)) else .no) _ _ := out
  refine ⟨Sh, F, ms, env, sr, out.bind.imp (fun l e0 h1 J H1 Sh1 s1 w a1 D hD => ?_) fun _ _ _ x => x⟩
  by_cases hc : (plainAt e0 own && tgIn tg own) = true
  · rw [if_pos hc] at h1
    rw [Bool.and_eq_true] at hc
    have h2 := (noEx_out h1).bind
    exact lc_imp s1 w hc.1 hc.2 hD (h2.imp (fun acc e h3 => lc_end s1 hc.1 a1 h3) fun _ _ _ x => x)
  · rw [if_neg hc] at h1; exact h1.elim
/-- what a block's parts are to be -/
structure LcOk (X : Cx) (c : Cfg) (tg : Tg) (ifs : Es) (elt : E) (own : List Nat) (etg : Expr) (eifs : List Expr) (eelt : Expr) (scope : Scope) : Prop where
  ok : ∃ own' : List (Str × Nat), BlkOk X.N X.env.scope scope own' ∧ own'.map (·.2) = own
  g : ∀ (s : Shared) (H : Hp) (C : Addr) (cl : List (Str × Addr)) (fp : List Addr), PG (X.blk s H scope (compEnvC scope cl C X.env) fp) etg (rTg (zx X) [] tg)
  t : ∀ (s : Shared) (H : Hp) (C : Addr) (cl : List (Str × Addr)) (fp : List Addr), PTs (X.blk s H scope (compEnvC scope cl C X.env) fp) eifs (rTt (zx X) (Xp.none (zx X)) (evT c ifs))
  e : ∀ (s : Shared) (H : Hp) (C : Addr) (cl : List (Str × Addr)) (fp : List Addr), PE (X.blk s H scope (compEnvC scope cl C X.env) fp) eelt (rF (zx X) (Xp.none (zx X)) (mElt c elt))
theorem se_lc (hc : X.calm = true) (hN : X.N.Nodup) (hi : PI X etg iter (rI (zx X) xp (evi c it))) (L : LcOk X c tg ifs elt own etg eifs eelt scope) (hs : ∀ x, foldedSetIterable iter X.env x = pure x) :
    SE X c xp (.lc elt tg it ifs own) (.ListComp eelt [⟨etg, iter, eifs, 0⟩] scope pos) := by
  obtain ⟨own', ok, rfl⟩ := L.ok
  exact .plain rfl (peI (pe_lc hc hN hi ok L.g L.t L.e hs) lc_read) (fun _ => rfl)
end
end Vi

set_option autoImplicit false
set_option Elab.async false
set_option linter.all false
set_option maxRecDepth 100000
/-! VI: comprehensions of two clauses. -/
namespace Vi
open PySem PySem.Spec PyProof.Rows L2
section
variable {c : Cfg}
/-- the loop of a block, from any list -/
theorem lcI_imp {J : L2.It} {l : List T} {Z : Rw} {Sh1 H1 : Hp} {F : List Addr} {σ : L2.St} {e0 : Env} {own : List Nat} {tg : Tg} {ifs : Es} {elt : E} {D : Addr} {Qd : Hp → Prop} {acc0 : List T} {accV0 : List V}
    (s0 : SR Z Sh1 (D :: F) [] σ H1 e0) (hd0 : H1 D = some (.lst accV0)) (r0 : RpL Z Sh1 accV0 acc0) (w : Wk Z Sh1 J l) (ht : tgIn tg own = true)
    (out : Out (turns own (lcBody c tg ifs elt) l acc0 e0) (fun acc e => ∀ H' Sh' accV, SR Z Sh' (D :: F) [] (L2.wipe σ own) H' (wipe e own) → H' D = some (.lst accV) → RpL Z Sh' accV acc → Aft Sh1 F H1 Sh' H' → Qd H') (fun _ _ _ => False)) :
    ∃ W : Nat → Nat → Hp → Prop, (∃ m, W 0 m H1) ∧ ∀ i m H, W i m H →
      (J.stop i H ∧ Qd H) ∨ (J.go i H ∧ ∃ Nx : Hp → Prop, (∀ H', Nx H' → ∃ m', m' < m ∧ W (i + 1) m' H') ∧ ∀ x H', J.yld i H x H' → rTg Z [] tg x (L2.wipe σ own) H' fun σ2 H2 => L2.wipe σ2 own = L2.wipe σ own ∧ rTt Z (Xp.none Z) (evT c ifs) σ2 H2 fun b H3 =>
        if b = true then rF Z (Xp.none Z) (mElt c elt) σ2 H3 fun y H4 => ∃ acc, H4 D = some (.lst acc) ∧ acc.length < sizeLine ∧ Nx (upd H4 D (.lst (acc ++ [y]))) else Nx H3) := by
  have hz := line_eq
  generalize hP : (fun (acc : List T) (e : Env) => ∀ H' Sh' accV, SR Z Sh' (D :: F) [] (L2.wipe σ own) H' (wipe e own) → H' D = some (.lst accV) → RpL Z Sh' accV acc → Aft Sh1 F H1 Sh' H' → Qd H') = P at out
  refine ⟨fun i m H => m = l.length - i ∧ LcW Z Sh1 H1 F σ own D l (lcBody c tg ifs elt) P i H, ⟨l.length, by simp, ⟨Sh1, e0, acc0, accV0, s0.wiped own, hd0, r0, Aft.refl, Nat.zero_le _, by simpa using out⟩⟩, ?_⟩
  rintro i m H ⟨rfl, ⟨Sh, e, acc, accV, s, hd, racc, af, hi, out⟩⟩
  by_cases hlt : i < l.length
  · refine .inr ⟨w.go i Sh H af.grow s.sub hlt, fun H' => LcW Z Sh1 H1 F σ own D l (lcBody c tg ifs elt) P (i + 1) H', fun H' q => ⟨l.length - (i + 1), by omega, rfl, q⟩, fun x H' y => ?_⟩
    have hx : l[i]? = some l[i] := List.getElem?_eq_getElem hlt
    obtain ⟨Sh3, s3, a3, r3⟩ := w.yld i Sh H x H' (D :: F) [] (L2.wipe σ own) (wipe e own) l[i] af.grow s y hx
    have hd3 : H' D = some (.lst accV) := (a3.keep D List.mem_cons_self).trans hd
    rw [List.drop_eq_getElem_cons hlt] at out
    have out : Out ((lcBody c tg ifs elt l[i] (wipe e own)).bind fun o e => match o with
      | some t => if acc.length < line then turns own (lcBody c tg ifs elt) (l.drop (i + 1)) (acc ++ [t]) e else .no
      | none => turns own (lcBody c tg ifs elt) (l.drop (i + 1)) acc e) P (fun _ _ _ => False) := out
    have out := (show Out ((asg tg l[i] (wipe e own)).bind _) _ _ from out.bind).bind
    refine ⟨Sh3, D :: F, [], wipe e own, l[i], s3, fun p hp => by simp at hp, r3, out.imp (fun _ e1 h1 σ' s4 m4 => ?_) fun _ _ _ x => x⟩
    have hw : L2.wipe σ' own = L2.wipe σ own := by
      rw [← wipe_twice (σ := σ)]
      refine wipe_idem m4.1 fun j hj => m4.2 j fun z => hj ?_
      have := List.all_eq_true.mp ht j z
      simpa using this
    refine ⟨hw, Sh3, D :: F, [], e1, s4, (show Out ((evT c ifs e1).bind _) _ _ from h1).bind.imp (fun b e2 h2 H5 Sh5 s5 a5 => ?_) fun _ _ _ x => x⟩
    have hd5 : H5 D = some (.lst accV) := (a5.keep D List.mem_cons_self).trans hd3
    have a15 : Aft Sh1 F H1 Sh5 H5 := af.trans ((a3.trans a5).less fun z hz => List.mem_cons_of_mem _ hz)
    cases b with
    | false =>
      dsimp only
      rw [if_neg Bool.false_ne_true]
      refine ⟨Sh5, e2, acc, accV, ?_, hd5, racc.mono fun a o z => a5.grow a o (a3.grow a o z), a15, hlt, h2⟩
      have := s5.wiped own
      rwa [hw] at this
    | true =>
      dsimp only
      rw [if_pos rfl]
      have h2 : Out ((strong (isRd elt) (ev c elt) e2).bind fun t e => R.ok (some (fz t)) e) _ _ := h2
      refine ⟨Sh5, D :: F, [], e2, s5, h2.bind.imp (fun t e6 h6 y H6 Sh6 s6 r6 a6 => ?_) fun _ _ _ x => x⟩
      have h6 : Out (if acc.length < line then turns own (lcBody c tg ifs elt) (l.drop (i + 1)) (acc ++ [fz t]) e6 else .no) P (fun _ _ _ => False) := h6
      by_cases hacc : acc.length < line
      · rw [if_pos hacc] at h6
        have hd6 : H6 D = some (.lst accV) := (a6.keep D List.mem_cons_self).trans hd5
        refine ⟨accV, hd6, by rw [racc.1, ← hz]; exact hacc, Sh6, e6, acc ++ [fz t], accV ++ [y], ?_, upd_same, ?_, ?_, hlt, h6⟩
        · have s7 := s6.wiped own
          rw [hw] at s7
          have hDS : Sh6 D = none := (s6.fr.2 D List.mem_cons_self).1
          have ndF := List.nodup_cons.mp s6.fr.1
          exact SR.step (A := [D]) (A' := [D]) s7 (fun _ _ z => z) (fun a o z => by rw [upd_ne (ne_of_none z hDS)]; exact s7.sub a o z) (fun a ha _ => ⟨upd_ne (by simpa using ha), fun z => z⟩)
            (fun a ha => by obtain rfl : a = D := by simpa using ha
                            exact ⟨.inl (by simp), hDS, _, upd_same⟩) (by simp)
        · exact (racc.mono fun a o z => a6.grow a o (a5.grow a o (a3.grow a o z))).append (RpL.nil.cons r6)
        · refine ⟨fun a o z => a6.grow a o (a15.grow a o z), fun a ha => ?_⟩
          have ndF := List.nodup_cons.mp s6.fr.1
          have hne : a ≠ D := fun z => ndF.1 (z ▸ ha)
          rw [upd_ne hne]
          exact (a6.keep a (List.mem_cons_of_mem _ ha)).trans (a15.keep a ha)
      · rw [if_neg hacc] at h6; exact h6.elim
  · have e1 : i = l.length := by omega
    subst e1
    rw [List.drop_length] at out
    subst hP
    exact .inl ⟨w.stop _ Sh H af.grow s.sub (Nat.le_refl _), (show ∀ H' Sh' accV, _ from out) H Sh accV s hd racc af⟩
def lc2Body (c : Cfg) (tg : Tg) (ifs : Es) (it2 : Vi.It) (tg2 : Tg) (ifs2 : Es) (elt : E) (own2 : List Nat) : T → List T → M (List T) := fun x acc e => (asg tg x e).bind fun _ e => (evT c ifs e).bind fun b e =>
  if b then (evi c it2 e).bind fun l2 e => turns own2 (lcBody c tg2 ifs2 elt) l2 acc e else .ok acc e
structure LcW2 (Z : Rw) (Sh1 H1 : Hp) (F : List Addr) (σ : L2.St) (own : List Nat) (D : Addr) (l : List T) (body : T → List T → M (List T)) (P : List T → Env → Prop) (i : Nat) (H : Hp) : Prop where
  st : ∃ Sh e acc accV, SR Z Sh (D :: F) [] (L2.wipe σ own) H (wipe e own) ∧ H D = some (.lst accV) ∧ RpL Z Sh accV acc ∧ Aft Sh1 F H1 Sh H ∧ i ≤ l.length ∧ Out (turns2 own body (l.drop i) acc e) P (fun _ _ _ => False)
theorem wipeE_sub {e : Env} {own own2 : List Nat} (h : ∀ j ∈ own2, j ∈ own) : wipe (wipe e own2) own = wipe e own := by
  apply List.ext_getElem?
  intro j
  rw [wipe_get', wipe_get', wipe_len, wipe_get']
  by_cases y : j ∈ own
  · rw [if_pos y, if_pos y]
  · rw [if_neg y, if_neg y, if_neg fun z => y (h j z)]
theorem wipeS_sub {σ : L2.St} {own own2 : List Nat} (h : ∀ j ∈ own2, j ∈ own) : L2.wipe (L2.wipe σ own2) own = L2.wipe σ own := wipe_idem (wipe_length _ _) fun j hj => wipe_out fun z => hj (h j z)
theorem lc2_imp {J : L2.It} {l : List T} {Z : Rw} {Sh1 H1 : Hp} {F : List Addr} {ms : List (Nat × V)} {σ : L2.St} {e0 : Env} {own own2 : List Nat} {tg tg2 : Tg} {ifs ifs2 : Es} {it2 : Vi.It} {elt : E} {D : Addr} {Q : VK}
    (s0 : SR Z Sh1 F ms σ H1 e0) (w : Wk Z Sh1 J l) (ht : tgIn tg own = true) (ht2 : tgIn tg2 own2 = true) (hs : ∀ j ∈ own2, j ∈ own) (hD : H1 D = none)
    (out : Out (turns2 own (lc2Body c tg ifs it2 tg2 ifs2 elt own2) l [] e0) (fun acc e => ∀ H' Sh' accV, SR Z Sh' (D :: F) [] (L2.wipe σ own) H' (wipe e own) → H' D = some (.lst accV) → RpL Z Sh' accV acc → Aft Sh1 F H1 Sh' H' → Q (.ref D) H') (fun _ _ _ => False)) :
    ∃ W : Nat → Nat → Hp → Prop, (∃ m, W 0 m (upd H1 D (.lst []))) ∧ ∀ i m H, W i m H →
      (J.stop i H ∧ Q (.ref D) H) ∨ (J.go i H ∧ ∃ Nx : Hp → Prop, (∀ H', Nx H' → ∃ m', m' < m ∧ W (i + 1) m' H') ∧ ∀ x H', J.yld i H x H' → rTg Z [] tg x (L2.wipe σ own) H' fun σ2 H2 => L2.wipe σ2 own = L2.wipe σ own ∧ rTt Z (Xp.none Z) (evT c ifs) σ2 H2 fun b H3 =>
        if b = true then rI Z (Xp.none Z) (evi c it2) σ2 H3 fun J1 H4 => ∃ W1 : Nat → Nat → Hp → Prop, (∃ m, W1 0 m H4) ∧ ∀ j k H, W1 j k H →
          (J1.stop j H ∧ Nx H) ∨ (J1.go j H ∧ ∃ Nx1 : Hp → Prop, (∀ H', Nx1 H' → ∃ k', k' < k ∧ W1 (j + 1) k' H') ∧ ∀ x H', J1.yld j H x H' → rTg Z [] tg2 x (L2.wipe σ2 own2) H' fun σ3 H5 => L2.wipe σ3 own2 = L2.wipe σ2 own2 ∧ rTt Z (Xp.none Z) (evT c ifs2) σ3 H5 fun b H6 =>
            if b = true then rF Z (Xp.none Z) (mElt c elt) σ3 H6 fun y H7 => ∃ acc, H7 D = some (.lst acc) ∧ acc.length < sizeLine ∧ Nx1 (upd H7 D (.lst (acc ++ [y]))) else Nx1 H6)
        else Nx H3) := by
  generalize hP : (fun (acc : List T) (e : Env) => ∀ H' Sh' accV, SR Z Sh' (D :: F) [] (L2.wipe σ own) H' (wipe e own) → H' D = some (.lst accV) → RpL Z Sh' accV acc → Aft Sh1 F H1 Sh' H' → Q (.ref D) H') = P at out
  generalize hB : lc2Body c tg ifs it2 tg2 ifs2 elt own2 = B at out
  refine ⟨fun i m H => m = l.length - i ∧ LcW2 Z Sh1 H1 F σ own D l B P i H, ⟨l.length, by simp, ⟨Sh1, e0, [], [], SR.new (s0.wiped own) hD, upd_same, RpL.nil, s0.aft_upd hD, Nat.zero_le _, by simpa using out⟩⟩, ?_⟩
  rintro i m H ⟨rfl, ⟨Sh, e, acc, accV, s, hd, racc, af, hi, out⟩⟩
  by_cases hlt : i < l.length
  · refine .inr ⟨w.go i Sh H af.grow s.sub hlt, fun H' => LcW2 Z Sh1 H1 F σ own D l B P (i + 1) H', fun H' q => ⟨l.length - (i + 1), by omega, rfl, q⟩, fun x H' y => ?_⟩
    have hx : l[i]? = some l[i] := List.getElem?_eq_getElem hlt
    obtain ⟨Sh3, s3, a3, r3⟩ := w.yld i Sh H x H' (D :: F) [] (L2.wipe σ own) (wipe e own) l[i] af.grow s y hx
    have hd3 : H' D = some (.lst accV) := (a3.keep D List.mem_cons_self).trans hd
    rw [List.drop_eq_getElem_cons hlt] at out
    have out : Out ((B l[i] acc (wipe e own)).bind fun acc e => turns2 own B (l.drop (i + 1)) acc e) P (fun _ _ _ => False) := out
    rw [← hB] at out
    have out := (show Out ((asg tg l[i] (wipe e own)).bind _) _ _ from out.bind).bind
    rw [hB] at out
    refine ⟨Sh3, D :: F, [], wipe e own, l[i], s3, fun p hp => by simp at hp, r3, out.imp (fun _ e1 h1 σ' s4 m4 => ?_) fun _ _ _ x => x⟩
    have hw : L2.wipe σ' own = L2.wipe σ own := by
      rw [← wipe_twice (σ := σ)]
      refine wipe_idem m4.1 fun j hj => m4.2 j fun z => hj ?_
      have := List.all_eq_true.mp ht j z
      simpa using this
    refine ⟨hw, Sh3, D :: F, [], e1, s4, (show Out ((evT c ifs e1).bind _) _ _ from h1).bind.imp (fun b e2 h2 H5 Sh5 s5 a5 => ?_) fun _ _ _ x => x⟩
    have hd5 : H5 D = some (.lst accV) := (a5.keep D List.mem_cons_self).trans hd3
    have a15 : Aft Sh1 F H1 Sh5 H5 := af.trans ((a3.trans a5).less fun z hz => List.mem_cons_of_mem _ hz)
    have racc5 := racc.mono fun a o z => a5.grow a o (a3.grow a o z)
    cases b with
    | false =>
      dsimp only
      rw [if_neg Bool.false_ne_true]
      refine ⟨Sh5, e2, acc, accV, ?_, hd5, racc5, a15, hlt, h2⟩
      have := s5.wiped own
      rwa [hw] at this
    | true =>
      dsimp only
      rw [if_pos rfl]
      have h2 : Out ((evi c it2 e2).bind fun l2 e => turns own2 (lcBody c tg2 ifs2 elt) l2 acc e) _ _ := h2
      refine ⟨Sh5, D :: F, [], e2, s5, h2.bind.imp (fun l2 e6 h6 J1 H6 Sh6 s6 w6 a6 => ?_) fun _ _ _ x => x⟩
      have hd6 : H6 D = some (.lst accV) := (a6.keep D List.mem_cons_self).trans hd5
      have a16 : Aft Sh1 F H1 Sh6 H6 := a15.trans (a6.less fun z hz => List.mem_cons_of_mem _ hz)
      refine lcI_imp (acc0 := acc) s6 hd6 (racc5.mono a6.grow) w6 ht2 (h6.imp (fun acc7 e7 h7 H7 Sh7 accV7 s7 hd7 r7 a7 => ?_) fun _ _ _ x => x)
      refine ⟨Sh7, e7, acc7, accV7, ?_, hd7, r7, a16.trans a7, hlt, h7⟩
      have := s7.wiped own
      rwa [wipeS_sub hs, wipeE_sub hs, hw] at this
  · have e1 : i = l.length := by omega
    subst e1
    rw [List.drop_length] at out
    subst hP
    exact .inl ⟨w.stop _ Sh H af.grow s.sub (Nat.le_refl _), (show ∀ H' Sh' accV, _ from out) H Sh accV s hd racc af⟩
end
section
variable {X : Cx} {c : Cfg} {xp : Xp (zx X)} {tg tg2 : Tg} {ifs ifs2 : Es} {elt : E} {it it2 : Vi.It} {own own2 : List Nat} {etg iter etg2 iter2 eelt : Expr} {eifs eifs2 : List Expr} {scope : Scope} {pos : Pos}
theorem lc2_read : ∀ σ H Q, rS (zx X) xp (ev c (.lc2 elt tg it ifs tg2 it2 ifs2 own own2)) σ H Q →
    tLc2 (rI (zx X) xp (evi c it)) (rTg (zx X) [] tg) (rTt (zx X) (Xp.none (zx X)) (evT c ifs)) (rI (zx X) (Xp.none (zx X)) (evi c it2)) (rTg (zx X) [] tg2) (rTt (zx X) (Xp.none (zx X)) (evT c ifs2)) (rF (zx X) (Xp.none (zx X)) (mElt c elt)) own own2 σ H Q := fun σ H Q ⟨Sh, F, ms, env, sr, out⟩ => by
  have out : Out ((evi c it env).bind fun l e0 => if (plainAt e0 own && tgIn tg own && tgIn tg2 own2 && own2.all own.contains) = true then noEx ((turns2 own (lc2Body c tg ifs it2 tg2 ifs2 elt own2) l [] e0).bind fun acc e => .ok (T.lst true acc) (back e0 e own)) else .no) _ _ := out
  refine ⟨Sh, F, ms, env, sr, out.bind.imp (fun l e0 h1 J H1 Sh1 s1 w a1 D hD => ?_) fun _ _ _ x => x⟩
  by_cases hc : (plainAt e0 own && tgIn tg own && tgIn tg2 own2 && own2.all own.contains) = true
  · rw [if_pos hc] at h1
    simp only [Bool.and_eq_true] at hc
    obtain ⟨⟨⟨c1, c2⟩, c3⟩, c4⟩ := hc
    have h2 := (noEx_out h1).bind
    refine lc2_imp s1 w c2 c3 (fun j hj => by have := List.all_eq_true.mp c4 j hj; simpa using this) hD (h2.imp (fun acc e h3 => lc_end s1 c1 a1 h3) fun _ _ _ x => x)
  · rw [if_neg hc] at h1; exact h1.elim
theorem se_lc2 (hc : X.calm = true) (hN : X.N.Nodup) (hi : PI X etg iter (rI (zx X) xp (evi c it))) (ok : ∃ own' : List (Str × Nat), BlkOk X.N X.env.scope scope own' ∧ own'.map (·.2) = own) (hv : ∀ i ∈ own2, i ∈ own)
    (hg : ∀ (s : Shared) (H : Hp) (C : Addr) (cl : List (Str × Addr)) (fp : List Addr), PG (X.blk s H scope (compEnvC scope cl C X.env) fp) etg (rTg (zx X) [] tg))
    (ht : ∀ (s : Shared) (H : Hp) (C : Addr) (cl : List (Str × Addr)) (fp : List Addr), PTs (X.blk s H scope (compEnvC scope cl C X.env) fp) eifs (rTt (zx X) (Xp.none (zx X)) (evT c ifs)))
    (hi1 : ∀ (s : Shared) (H : Hp) (C : Addr) (cl : List (Str × Addr)) (fp : List Addr), PI (X.blk s H scope (compEnvC scope cl C X.env) fp) etg2 iter2 (rI (zx X) (Xp.none (zx X)) (evi c it2)))
    (hg1 : ∀ (s : Shared) (H : Hp) (C : Addr) (cl : List (Str × Addr)) (fp : List Addr), PG (X.blk s H scope (compEnvC scope cl C X.env) fp) etg2 (rTg (zx X) [] tg2))
    (ht1 : ∀ (s : Shared) (H : Hp) (C : Addr) (cl : List (Str × Addr)) (fp : List Addr), PTs (X.blk s H scope (compEnvC scope cl C X.env) fp) eifs2 (rTt (zx X) (Xp.none (zx X)) (evT c ifs2)))
    (he : ∀ (s : Shared) (H : Hp) (C : Addr) (cl : List (Str × Addr)) (fp : List Addr), PE (X.blk s H scope (compEnvC scope cl C X.env) fp) eelt (rF (zx X) (Xp.none (zx X)) (mElt c elt)))
    (hs : ∀ x, foldedSetIterable iter X.env x = pure x) (hs1 : ∀ env x, foldedSetIterable iter2 env x = pure x) :
    SE X c xp (.lc2 elt tg it ifs tg2 it2 ifs2 own own2) (.ListComp eelt [⟨etg, iter, eifs, 0⟩, ⟨etg2, iter2, eifs2, 0⟩] scope pos) := by
  obtain ⟨own', ok, rfl⟩ := ok
  exact .plain rfl (peI (pe_lc2 hc hN hi ok hv hg ht hi1 hg1 ht1 he hs hs1) lc2_read) (fun _ => rfl)
end
end Vi

set_option autoImplicit false
set_option Elab.async false
set_option linter.all false
set_option maxRecDepth 100000
/-! VI: dicts that are written, read with a default, copied from a module's. -/
namespace Vi
open PySem PySem.Spec PyProof.Rows L2
section
variable {X : Cx} {c : Cfg} {xp : Xp (zx X)} {pos : Pos}
/-- the pairs of a display, in the text and in the IR -/
inductive Prs (X : Cx) (c : Cfg) (xp : Xp (zx X)) (pos : Pos) : Es → List (Option Expr) → List Expr → List (TE × TE) → Prop where
  | nil : Prs X c xp pos .nil [] [] []
  | cons {ek ev' : E} {es : Es} {k v : Expr} {ks : List (Option Expr)} {vs : List Expr} {trs : List (TE × TE)} (hk : SE X c xp ek k) (hv : SE X c xp ev' v) (r : Prs X c xp pos es ks vs trs) :
      Prs X c xp pos (.cons ek (.cons ev' es)) (some k :: ks) (v :: vs) ((rF (zx X) xp (strong (isRd ek) (ev c ek)), rF (zx X) xp (strong (isRd ev') (ev c ev'))) :: trs)
theorem Prs.pps {es : Es} {ks : List (Option Expr)} {vs : List Expr} {trs : List (TE × TE)} (r : Prs X c xp pos es ks vs trs) : PPs X pos ks vs trs := by
  induction r with
  | nil => exact pps_nil
  | cons hk hv _ ih => exact pps_cons (pe_frzS hk) (pe_frzS hv) ih
theorem Prs.facts {es : Es} {ks : List (Option Expr)} {vs : List Expr} {trs : List (TE × TE)} (r : Prs X c xp pos es ks vs trs) : ks.all (·.isSome) = true ∧ ks.length = vs.length ∧ trs.length = ks.length := by
  induction r with
  | nil => exact ⟨rfl, rfl, rfl⟩
  | cons _ _ _ ih => exact ⟨by simpa using ih.1, by simp [ih.2.1], by simp [ih.2.2]⟩
theorem Prs.imp {es : Es} {ks : List (Option Expr)} {vs : List Expr} {trs : List (TE × TE)} (r : Prs X c xp pos es ks vs trs) : ∀ {Sh F ms σ H env acc} {kvs : List (Key × V)} {Q : List (V × V) → Hp → Prop} {Y : Nat → T → Env → Prop} {D : Addr},
    SR (zx X) Sh (D :: F) ms σ H env → KR (zx X) Sh kvs acc → (∀ k d e, Y k d e → xp.p Sh (D :: F) ms H k d e) →
    Out (evp c es acc env) (fun l e => ∀ H' Sh' (more : List (Key × V)), SR (zx X) Sh' (D :: F) ms σ H' e → KR (zx X) Sh' (mergeK kvs more) l → more.length = trs.length → Aft Sh (D :: F) H Sh' H' → Q (more.map fun kv => (kV kv.1, kv.2)) H') Y → tPairs trs σ H Q := by
  induction r with
  | nil =>
    intro Sh F ms σ H env acc kvs Q Y D s kr hY out
    exact (show Out (R.ok acc env) _ _ from out) H Sh [] s kr rfl Aft.refl
  | @cons ek ev' es k v ks vs trs hk hv _ ih =>
    intro Sh F ms σ H env acc kvs Q Y D s kr hY out
    have out : Out ((strong (isRd ek) (ev c ek) env).bind fun t e => (strong (isRd ev') (ev c ev') e).bind fun u e => if (kind? (fz t) == some false) = true then evp c es (dput acc (fz t) (fz u)) e else .no) _ _ := out
    refine ⟨Sh, D :: F, ms, env, s, out.bind.imp (fun t e1 h1 x H1 Sh1 s1 r1 a1 => ?_) fun k d e y => hY k d e y⟩
    refine ⟨Sh1, D :: F, ms, e1, s1, h1.bind.imp (fun u e2 h2 y H2 Sh2 s2 r2 a2 => ?_) fun k d e y => xp.mono [] a1 (hY k d e y)⟩
    by_cases hkd : (kind? (fz t) == some false) = true
    · rw [if_pos hkd] at h2
      have hk0 : kind? (fz t) = some false := by simpa using hkd
      obtain ⟨key, e, hx⟩ := keyT_of0 hk0 r1
      refine ih (kvs := putK kvs key y) s2 ?_ (fun k d e y => xp.mono [] (a1.trans a2) (hY k d e y)) (h2.imp (fun l e3 h3 H3 Sh3 more s3 k3 hl a3 => ?_) fun _ _ _ x => x)
      · rw [← e]
        exact (kr.mono (fun a o z => a2.grow a o (a1.grow a o z))).put key r2
      · have := h3 H3 Sh3 ((key, y) :: more) s3 k3 (by simp [hl]) ((a1.trans a2).trans a3)
        rw [List.map_cons] at this
        rw [hx]
        exact this
    · rw [if_neg hkd] at h2; exact h2.elim
theorem se_dct {es : Es} {ks : List (Option Expr)} {vs : List Expr} {trs : List (TE × TE)} (r : Prs X c xp pos es ks vs trs) (h0 : ks ≠ []) (h15 : ks.length ≤ 15) : SE X c xp (.dct es) (.Dict ks vs pos) := by
  obtain ⟨f1, f2, f3⟩ := r.facts
  refine .plain rfl (peI (pe_disp r.pps f1 f2 h0 h15) fun σ H Q ⟨Sh, F, ms, env, sr, out⟩ => ?_) (fun _ => rfl)
  have out : Out ((evp c es [] env).bind fun l e => R.ok (T.dic true l) e) _ _ := out
  intro D hD
  have a0 := sr.aft_upd (o := .dK []) hD
  have shD := sr.sh_none hD
  refine r.imp (D := D) (SR.new sr hD) KR.nil (fun k d e y => xp.mono [D] (F := F) a0 y) (out.bind.imp (fun l e h1 H' Sh' more s2 k2 hl a2 => ?_) fun _ _ _ x => x)
  have hd2 : H' D = some (.dK []) := (a2.keep D List.mem_cons_self).trans upd_same
  refine ⟨hd2, more, rfl, by omega, ?_⟩
  have hS : Sh' D = none := (s2.fr.2 D List.mem_cons_self).1
  have s3 : SR (zx X) Sh' ([D] ++ F) ms σ (upd H' D (.dK (mergeK [] more))) e := SR.step (A := [D]) (A' := [D]) s2 (fun _ _ z => z) (fun a o z => by rw [upd_ne (ne_of_none z hS)]; exact s2.sub a o z) (fun a ha _ => ⟨upd_ne (by simpa using ha), fun z => z⟩)
    (fun a ha => by obtain rfl : a = D := by simpa using ha
                    exact ⟨.inl (by simp), hS, _, upd_same⟩) (by simp)
  refine (show ∀ v H' Sh' A, _ from h1) _ _ Sh' [D] s3 (.dic0 upd_same hS k2.hk (VRep.ofRpL k2.hv)) ⟨fun a o z => a2.grow a o z, fun a ha => ?_⟩
  have ndF := List.nodup_cons.mp s2.fr.1
  have hne : a ≠ D := fun z => ndF.1 (z ▸ ha)
  rw [upd_ne hne]
  exact (a2.keep a (List.mem_cons_of_mem _ ha)).trans (a0.keep a ha)
/-- {} -/
theorem se_dct0 : SE X c xp (.dct .nil) (.Dict [] [] pos) := by
  refine .plain rfl (peI pe_dnewK fun σ H Q ⟨Sh, F, ms, env, sr, out⟩ => ?_) (fun _ => rfl)
  have out : Out (R.ok (T.dic true []) env) _ _ := out
  intro D hD
  exact (show ∀ v H' Sh' A, _ from out) _ _ Sh [D] (SR.new sr hD) (.dic0 upd_same (sr.sh_none hD) rfl .nil) (sr.aft_upd hD)
/-- a module's dict, copied -/
theorem se_gdct {g : Nat} {x n : Str} {p q : Pos} {o : Bool} {l : List (T × T)} {kvs : List (Key × V)} (hg : c.glos[g]? = some (.dic o l)) (h : PE X (.Call (.Name x p) [.Name n q] [] pos) (fun σ H Q => ∀ D, H D = none → Q (.ref D) (upd H D (.dK kvs))))
    (hk : kvs.map (fun p => keyT p.1) = l.map (·.1)) (hr : ∀ Sh, RpL (zx X) Sh (kvs.map (·.2)) (l.map (·.2))) : SE X c xp (.gdct g) (.Call (.Name x p) [.Name n q] [] pos) := by
  refine .plain rfl (peI h fun σ H Q ⟨Sh, F, ms, env, sr, out⟩ => ?_) (fun _ => rfl)
  have out : Out (need ((c.glos[g]?).bind fun t => match t with
    | .dic _ l => some (T.dic true l)
    | _ => none) env) _ _ := out
  rw [hg] at out
  have out : Out (R.ok (T.dic true l) env) _ _ := out
  intro D hD
  exact (show ∀ v H' Sh' A, _ from out) _ _ Sh [D] (SR.new sr hD) (.dic0 upd_same (sr.sh_none hD) hk (VRep.ofRpL (hr Sh))) (sr.aft_upd hD)
/-! ### x.get(k, d) -/
theorem dic_isD {Z : Rw} {Sh H : Hp} {F : List Addr} {ms : List (Nat × V)} {σ : L2.St} {env : Env} {A : List Addr} {x : V} {o : Bool} {l : List (T × T)} (s : SR Z Sh F ms σ H env) (r : Rep Z Sh H x (.dic o l) A) :
    ∃ a, x = .ref a ∧ ((∃ kvs, Rd H a (.dK kvs)) ∨ ∃ xs, Rd H a (keyedO Z.P Z.w a xs) ∧ xs.map (·.1) = l.map (fun q => nk q.1) ∧ l ≠ [] ∧ (∀ q ∈ l, kind? q.1 = some true) ∧ ∀ (i : Nat) (p : NestedKey × Addr × V) (q : T × T), xs[i]? = some p → l[i]? = some q → Rp Z Sh (.ref p.2.1) q.1) := by
  cases r with
  | sh r =>
    cases r with
    | dic0 h _ _ _ => exact ⟨_, rfl, .inl ⟨_, .inr ⟨_, s.sub _ _ h⟩⟩⟩
    | dic1 h hl hk hp hr _ => exact ⟨_, rfl, .inr ⟨_, .inr ⟨_, s.sub _ _ h⟩, hk, hp.1, hp.2, hr⟩⟩
  | dic0 h _ _ _ => exact ⟨_, rfl, .inl ⟨_, .inl h⟩⟩
  | dic1 h _ hk hp hr _ => exact ⟨_, rfl, .inr ⟨_, .inl h, hk, hp.1, hp.2, hr⟩⟩
/-- it is a dict -/
def IsDic (Z : Rw) (x : V) (H : Hp) : Prop := ∃ Sh a, x = .ref a ∧ Grow Sh H ∧ ((∃ kvs, Rd H a (.dK kvs)) ∨ ∃ xs, Rd H a (keyedO Z.P Z.w a xs) ∧ KeysIn Z Sh xs)
theorem IsDic.at {pins : List (Addr × Obj)} {σ : L2.St} {H : Hp} {s : Shared} {x : V} {u : Value} (I : Inv X pins σ H s) (rx : RelV x u) (h : IsDic (zx X) x H) : ∃ a, x = .ref a ∧ u = .ref a ∧ s.TypeIs (.ref a) "dict" ∧ ∀ b, Value.ref a = .ref b → ∃ ob, s.heap.get? b = some ob ∧ ob.dict = none := by
  obtain ⟨Sh, a, rfl, g, ⟨kvs, e⟩ | ⟨xs, e, hk⟩⟩ := h
  · cases (show u = Value.ref a from rx)
    obtain ⟨_, hd, vs, _, dd⟩ := dk_rd I.hok e
    refine ⟨a, rfl, rfl, dd.typeIs, fun b q => ?_⟩
    cases q
    obtain ⟨ob, _, _, h1, h2, _⟩ := dd
    exact ⟨ob, h1, h2.2.1⟩
  · cases (show u = Value.ref a from rx)
    obtain ⟨_, _, ys, _, dd⟩ := keyed_at I g e hk
    refine ⟨a, rfl, rfl, dd.typeIs, fun b q => ?_⟩
    cases q
    obtain ⟨ob, _, _, h1, h2, _⟩ := dd
    exact ⟨ob, h1, h2.2.1⟩
def tGetZ (Z : Rw) (td ty tx : TE) : TE := fun σ H Q => td σ H fun x H1 => IsDic Z x H1 ∧ ty σ H1 fun y H2 => tx σ H2 fun z H3 => ∃ Sh a o, x = .ref a ∧ DLook Z Sh H3 a y o ∧ Q (o.getD z) H3
theorem pe_getZ {o e f : Expr} {apos : Pos} {td ty tx : TE} (hu : X.A.units + 65 < cLine) (ho : PE X o td) (he : PE X e ty) (hf : PE X f tx) (m : M2 X o "get" apos e f pos) : PE X (.Call (.Attribute o "get" apos) [e, f] [] pos) (tGetZ (zx X) td ty tx) := by
  refine ⟨fun pins s σ H Q I h => ?_⟩
  refine wpAny_Call_method m.base m.few m.line PySem.F.plainAttrs_dict PySem.F.slot_dict_get PySem.F.type_dict_get (thn (ho.run pins s σ H _ I h) fun u s1 ⟨x, H1, I1, rx, d, q1⟩ => ?_)
  obtain ⟨a, rfl, rfl, t1, t2⟩ := d.at I1 rx
  refine ⟨t1, t2, ?_⟩
  rw [m.trees]
  refine Calls.callWith_builtin rfl (Calls.evalArgs_plain (Calls.spliced_cons (thn (he.run pins s1 σ H1 _ I1 q1) fun iv s2 ⟨y, H2, I2, ry, q2⟩ =>
    Calls.spliced_cons (thn (hf.run pins s2 σ H2 _ I2 q2) fun fv s3 ⟨z, H3, I3, rz, Sh, b, ov, e, g, q3⟩ => Calls.spliced_nil ?_))))
  cases e
  exact zd_get2 hu I3 g ry rz fun w' s4 I4 rw' => ⟨_, H3, I4, rw', q3⟩
theorem se_get {ed ek ex' : E} {o e f : Expr} {apos : Pos} (hu : X.A.units + 65 < cLine) (ho : SE X c xp ed o) (he : SE X c xp ek e) (hf : SE X c xp ex' f) (m : M2 X o "get" apos e f pos) : SE X c xp (.get ed ek ex') (.Call (.Attribute o "get" apos) [e, f] [] pos) := by
  refine .plain rfl (peI (pe_getZ hu ho.o he.o (pe_frzS hf) m) fun σ H Q ⟨Sh, F, ms, env, sr, out⟩ => ?_) (fun _ => rfl)
  have out : Out ((opd (isRd ed) (ev c ed) env).bind fun o e => (need ((o.get e).bind dic?) e).bind fun _ e => (opd (isRd ek) (ev c ek) e).bind fun p e => (strong (isRd ex') (ev c ex') e).bind fun t e => fin3 o p (.v (fz t)) getT e) _ _ := out
  refine ⟨Sh, F, ms, env, sr, out.bind.imp (fun o e1 h1 v1 H1 Sh1 A s1 r1 a1 => ?_) fun _ _ _ x => x⟩
  obtain ⟨u, hu', h1⟩ := out_need h1.bind
  obtain ⟨td, g1, hd⟩ := Option.bind_eq_some_iff.mp hu'
  obtain ⟨A1, w1⟩ := r1.fin s1.less g1
  refine ⟨?_, Sh1, A ++ F, ms, e1, s1, h1.bind.imp (fun p e2 h2 v2 H2 Sh2 B s2 r2 a2 => ?_) fun _ _ _ x => xp.mono A a1 x⟩
  · cases td with
    | dic ow l =>
      obtain ⟨a, e, h | ⟨xs, h, hk, hne, hkd, hr⟩⟩ := dic_isD s1.less w1
      · exact ⟨Sh1, a, e, s1.sub, .inl h⟩
      · refine ⟨Sh1, a, e, s1.sub, .inr ⟨xs, h, fun p hp => ?_⟩⟩
        obtain ⟨i, hi⟩ := List.getElem?_of_mem hp
        have hlen : xs.length = l.length := by have := congrArg List.length hk; simpa using this
        obtain ⟨hi', _⟩ := List.getElem?_eq_some_iff.mp hi
        have hq : l[i]? = some l[i] := List.getElem?_eq_getElem (by omega)
        have e : nk (l[i]).1 = p.1 := by
          have := congrArg (fun z => z[i]?) hk
          simp only [List.getElem?_map, hi, hq] at this
          exact (Option.some.inj this).symm
        exact ⟨_, hkd _ (List.mem_of_getElem? hq), e, hr i p _ hi hq⟩
    | _ => cases hd
  · have a12 : Aft Sh F H Sh2 H2 := a1.trans (a2.less fun x hx => List.mem_append_right _ hx)
    refine ⟨Sh2, B ++ (A ++ F), ms, e2, s2, h2.bind.imp (fun t e3 h3 z H3 Sh3 s3 r3 a3 => ?_) fun _ _ _ x => by have := xp.mono (B ++ A) a12 x; rwa [List.append_assoc] at this⟩
    obtain ⟨ta, tb, tc, t', g1', g2', g3', hf3, fin⟩ := out_fin3 h3
    have s3' : SR (zx X) Sh3 F ms σ H3 e3 := s3.less.less
    have q1 := r1.stay (a2.trans (a3.less fun x hx => List.mem_append_right _ hx)) (fun x hx => List.mem_append_left _ hx) (fun x hx => (s3.less.fr.2 x hx).1)
    have q2 := r2.stay a3 (fun x hx => List.mem_append_left _ hx) (fun x hx => (s3.fr.2 x hx).1)
    obtain ⟨A', w1'⟩ := q1.fin s3' g1'
    obtain ⟨B', w2'⟩ := q2.fin s3' g2'
    cases g3'
    have a13 : Aft Sh F H Sh3 H3 := a12.trans (a3.less fun x hx => List.mem_append_right _ (List.mem_append_right _ hx))
    cases ta with
    | dic ow l =>
      have hf3 : (if kindD l tb = true then some (((dget l tb).map sh1).getD (fz t)) else none) = some t' := hf3
      by_cases hk : kindD l tb = true
      · rw [if_pos hk] at hf3
        cases hf3
        obtain ⟨a, ov, e, g, h⟩ := dlook s3' w1' w2' hk
        refine ⟨Sh3, a, ov, e, g, ?_⟩
        rcases h with ⟨rfl, h⟩ | ⟨v, t2, rfl, h, hr⟩
        · rw [h] at fin
          exact fin z H3 Sh3 [] s3' (.sh r3) a13
        · rw [h] at fin
          exact fin v H3 Sh3 [] s3' (.sh hr) a13
      · rw [if_neg hk] at hf3; cases hf3
    | _ => cases hf3
end
end Vi

set_option autoImplicit false
set_option Elab.async false
set_option linter.all false
set_option maxRecDepth 100000
/-! VI: statements. -/
namespace Vi
open PySem PySem.Spec PyProof.Rows L2
section
variable {X : Cx} {c : Cfg} {xp : Xp (zx X)} {ML : List Nat} {a b : Expr} {ea eb : E} {pos : Pos} {st : Stmt} {sts : List Stmt}
/-- a statement's end -/
def StEnd (Z : Rw) (D : Ends) (Sh : Hp) (F : List Addr) (ms : List (Nat × V)) (H : Hp) (f : Fl) (e : Env) : Prop := match f with
  | .nx => ∀ σ' H' Sh', SR Z Sh' F ms σ' H' e → Aft Sh F H Sh' H' → D.nx σ' H'
  | .brk => ∀ σ' H' Sh', SR Z Sh' F ms σ' H' e → Aft Sh F H Sh' H' → D.bk σ' H'
  | .cnt => ∀ σ' H' Sh', SR Z Sh' F ms σ' H' e → Aft Sh F H Sh' H' → D.ct σ' H'
  | .ret t => ∀ v σ' H' Sh' A, SR Z Sh' (A ++ F) ms σ' H' e → Rep Z Sh' H' v t A → Aft Sh F H Sh' H' → D.rt v H'
theorem StEnd.after {Z : Rw} {D : Ends} {Sh Sh1 H H1 : Hp} {F : List Addr} {ms : List (Nat × V)} {f : Fl} {e : Env} (h : StEnd Z D Sh F ms H f e) (a : Aft Sh F H Sh1 H1) : StEnd Z D Sh1 F ms H1 f e := by
  cases f with
  | nx => exact fun σ' H' Sh' s q => h σ' H' Sh' s (a.trans q)
  | brk => exact fun σ' H' Sh' s q => h σ' H' Sh' s (a.trans q)
  | cnt => exact fun σ' H' Sh' s q => h σ' H' Sh' s (a.trans q)
  | ret t => exact fun v σ' H' Sh' A s r q => h v σ' H' Sh' A s r (a.trans q)
def rX (Z : Rw) (xp : Xp Z) (ML : List Nat) (m : M Fl) : TS := fun D σ H => ∃ Sh F ms env, SR Z Sh F ms σ H env ∧ (∀ p ∈ ms, p.1 ∈ ML) ∧ Out (m env) (fun f e => StEnd Z D Sh F ms H f e) (xp.p Sh F ms H)
theorem ss_pass : PS X (.Pass pos) (rX (zx X) xp ML (ex c .pass)) := psI ps_pass fun D σ H ⟨Sh, F, ms, env, s, hm, out⟩ => (show StEnd _ D Sh F ms H .nx env from (show Out (R.ok Fl.nx env) _ _ from out)) σ H Sh s Aft.refl
theorem ss_brk : PS X (.Break pos) (rX (zx X) xp ML (ex c .brk)) := psI ps_break fun D σ H ⟨Sh, F, ms, env, s, hm, out⟩ => (show StEnd _ D Sh F ms H .brk env from (show Out (R.ok Fl.brk env) _ _ from out)) σ H Sh s Aft.refl
theorem ss_cnt : PS X (.Continue pos) (rX (zx X) xp ML (ex c .cnt)) := psI ps_continue fun D σ H ⟨Sh, F, ms, env, s, hm, out⟩ => (show StEnd _ D Sh F ms H .cnt env from (show Out (R.ok Fl.cnt env) _ _ from out)) σ H Sh s Aft.refl
/-- name = value -/
theorem set_read {i : Nat} (hM : i ∉ ML) : ∀ D σ H, rX (zx X) xp ML (ex c (.asg i ea)) D σ H → tAsg (rS (zx X) xp (strong (isRd ea) (ev c ea))) (gName i) D σ H := fun D σ H ⟨Sh, F, ms, env, s, hm, out⟩ => by
  have out : Out ((strong (isRd ea) (ev c ea) env).bind fun t e => (setVar i t e).bind fun _ e => R.ok Fl.nx e) _ _ := out
  refine ⟨Sh, F, ms, env, s, out.bind.imp (fun t e1 h1 v H1 Sh1 A s1 r1 a1 => ?_) fun _ _ _ x => x⟩
  unfold setVar at h1
  by_cases hi : i < e1.length
  · rw [if_pos hi] at h1
    exact (show StEnd _ D Sh F ms H .nx _ from h1) _ H1 Sh1 (s1.store r1 hi fun p hp z => hM (z ▸ hm p hp)) a1
  · rw [if_neg hi] at h1; exact h1.elim
theorem ss_asg {i : Nat} {x : Str} {pos' : Pos} (hN : X.N.Nodup) (hi : X.N[i]? = some x) (hx : Loc X.env.scope x) (hf : X.fn x = true ∨ X.env.scope.names.lookup x = some .local) (hM : i ∉ ML) (h : SE X c xp ea a) (hs : swapsWith a (some (.Name x pos')) pos.line X.env = pure false) :
    PS X (.Assign [.Name x pos'] a pos) (rX (zx X) xp ML (ex c (.asg i ea))) := psI (ps_set hN hi hx (pe_strong h) hs hf) (set_read hM)
theorem asg_noex : ∀ (tg : Tg) (t : T) (e : Env) (k : Nat) (d : T) (e2 : Env), asg tg t e = .ex k d e2 → False := by
  intro tg
  refine Tg.rec (motive_1 := fun tg => ∀ (t : T) (e : Env) (k : Nat) (d : T) (e2 : Env), asg tg t e = .ex k d e2 → False) (motive_2 := fun ts => ∀ (l : List T) (e : Env) (k : Nat) (d : T) (e2 : Env), asgs ts l e = .ex k d e2 → False) ?_ ?_ ?_ ?_ tg
  · intro i t e k d e2 h
    have h : (if i < e.length then R.ok () (e.set i (some t)) else R.no) = .ex k d e2 := h
    split at h <;> cases h
  · intro ts ih t e k d e2 h
    cases t with
    | tup l => exact ih l e k d e2 h
    | _ => cases h
  · intro l e k d e2 h
    cases l <;> cases h
  · intro t ts ih1 ih2 l e k d e2 h
    cases l with
    | nil => cases h
    | cons a l =>
      have h : ((asg t a e).bind fun _ e => asgs ts l e) = .ex k d e2 := h
      cases q : asg t a e with
      | no => rw [q] at h; cases h
      | ex k2 d2 e3 => exact ih1 _ _ _ _ _ q
      | ok u e3 => rw [q] at h; exact ih2 _ _ _ _ _ h
/-- targets = value -/
theorem ss_asgT {tg : Tg} {et : Expr} (h : SE X c xp ea a) (hg : PG X et (rTg (zx X) ML tg)) (hs : swapsWithSole [et] a pos.line X.env = pure false) (hw : swappedStores [et] a X.env = pure none) (h1 : (assignEach [et] X.env).map (·.2) = [assign et X.env]) :
    PS X (.Assign [et] a pos) (rX (zx X) xp ML (ex c (.asgT tg ea))) := psI (ps_asg (pe_frzS h) hg hs hw h1) fun D σ H ⟨Sh, F, ms, env, s, hm, out⟩ => by
  have out : Out ((strong (isRd ea) (ev c ea) env).bind fun t e => (asg tg (fz t) e).bind fun _ e => R.ok Fl.nx e) _ _ := out
  refine ⟨Sh, F, ms, env, s, out.bind.imp (fun t e1 h2 v H1 Sh1 s1 r1 a1 => ?_) fun _ _ _ x => x⟩
  refine ⟨Sh1, F, ms, e1, _, s1, hm, r1, ?_⟩
  have h3 := h2.bind
  cases q : asg tg (fz t) e1 with
  | no => rw [q] at h3; exact h3
  | ex k d e => exact (asg_noex _ _ _ _ _ _ q).elim
  | ok u e2 =>
    rw [q] at h3
    exact fun σ' s2 _ => (show StEnd _ D Sh F ms H .nx e2 from h3) σ' H1 Sh1 s2 a1
/-- a value that is dropped -/
theorem ss_exp (h : SE X c xp ea a) (hs : swapsWith a none pos.line X.env = pure false) : PS X (.Expr a pos) (rX (zx X) xp ML (ex c (.exp ea))) := psI (ps_expr (pe_strong h) hs) fun D σ H ⟨Sh, F, ms, env, s, hm, out⟩ => by
  have out : Out ((strong (isRd ea) (ev c ea) env).bind fun _ e => R.ok Fl.nx e) _ _ := out
  exact ⟨Sh, F, ms, env, s, out.bind.imp (fun t e1 h1 v H1 Sh1 A s1 r1 a1 => (show StEnd _ D Sh F ms H .nx e1 from h1) σ H1 Sh1 s1.less a1) fun _ _ _ x => x⟩
theorem ss_ret (h : SE X c xp ea a) : PS X (.Return (some a) pos) (rX (zx X) xp ML (ex c (.ret ea))) := psI (ps_ret (pe_strong h)) fun D σ H ⟨Sh, F, ms, env, s, hm, out⟩ => by
  have out : Out ((strong (isRd ea) (ev c ea) env).bind fun t e => R.ok (Fl.ret t) e) _ _ := out
  exact ⟨Sh, F, ms, env, s, out.bind.imp (fun t e1 h1 v H1 Sh1 A s1 r1 a1 => (show StEnd _ D Sh F ms H (.ret t) e1 from h1) v σ H1 Sh1 A s1 r1 a1) fun _ _ _ x => x⟩
theorem ss_retv {i : Nat} (h : PE X a (tVar i)) : PS X (.Return (some a) pos) (rX (zx X) xp ML (ex c (.retv i))) := psI (ps_ret h) fun D σ H ⟨Sh, F, ms, env, s, hm, out⟩ => by
  have out : Out (match (env[i]?).bind id with
    | some t => R.ok (Fl.ret t) (env.set i none)
    | none => .no) _ _ := out
  cases q : (env[i]?).bind id with
  | none => rw [q] at out; exact out.elim
  | some t =>
    rw [q] at out
    obtain ⟨v, A, e1, r, s1⟩ := s.take q
    exact ⟨v, e1, (show StEnd _ D Sh F ms H (.ret t) _ from out) v σ H Sh A s1 r Aft.refl⟩
theorem ss_retN : PS X (.Return none pos) (rX (zx X) xp ML (ex c .retN)) := psI ps_retN fun D σ H ⟨Sh, F, ms, env, s, hm, out⟩ =>
  (show StEnd _ D Sh F ms H (.ret .non) env from (show Out (R.ok (Fl.ret .non) env) _ _ from out)) .non σ H Sh [] s (.sh .non) Aft.refl
/-- code that ends by an exception, where none may come -/
theorem ss_rai {k : Nat} {eo : Eo} (hex : ∀ Sh F ms H k d e, ¬ xp.p Sh F ms H k d e) : PS X st (rX (zx X) xp ML (ex c (.rai k eo))) := psI ps_never fun D σ H ⟨Sh, F, ms, env, s, hm, out⟩ => by
  cases eo with
  | non => exact hex _ _ _ _ _ _ _ (show Out (R.ex k .non env) _ _ from out)
  | som a =>
    have out : Out ((strong (isRd a) (ev c a) env).bind fun t e => R.ex k (fz t) e) _ _ := out
    cases q : strong (isRd a) (ev c a) env with
    | no => rw [q] at out; exact out.elim
    | ok t e => rw [q] at out; exact hex _ _ _ _ _ _ _ (show Out (R.ex k (fz t) e) _ _ from out)
    | ex k d e => rw [q] at out; exact hex _ _ _ _ _ _ _ (show Out (R.ex k d e) _ _ from out)
/-! ### blocks, if -/
theorem ss_nil : PSs X [] (rX (zx X) xp ML (exs c .nil)) := pssI pss_nil fun D σ H ⟨Sh, F, ms, env, s, hm, out⟩ => (show StEnd _ D Sh F ms H .nx env from (show Out (R.ok Fl.nx env) _ _ from out)) σ H Sh s Aft.refl
theorem ss_cons {s1 : S} {ss : Ss} (h : PS X st (rX (zx X) xp ML (ex c s1))) (hr : PSs X sts (rX (zx X) xp ML (exs c ss))) : PSs X (st :: sts) (rX (zx X) xp ML (exs c (.cons s1 ss))) := pssI (pss_cons h hr) fun D σ H ⟨Sh, F, ms, env, s, hm, out⟩ => by
  have out : Out ((ex c s1 env).bind fun f e => match f with
    | .nx => exs c ss e
    | f => .ok f e) _ _ := out
  refine ⟨Sh, F, ms, env, s, hm, out.bind.imp (fun f e1 h1 => ?_) fun _ _ _ x => x⟩
  cases f with
  | nx => exact fun σ1 H1 Sh1 s2 a2 => ⟨Sh1, F, ms, e1, s2, hm, (show Out (exs c ss e1) _ _ from h1).imp (fun f e2 h2 => h2.after a2) fun _ _ _ x => xp.mono [] a2 x⟩
  | brk => exact (show StEnd _ D Sh F ms H .brk e1 from h1)
  | cnt => exact (show StEnd _ D Sh F ms H .cnt e1 from h1)
  | ret t => exact (show StEnd _ D Sh F ms H (.ret t) e1 from h1)
theorem ss_ifs {sa sb : Ss} {xa xb : List Stmt} (h : SE X c xp ea a) (ha : PSs X xa (rX (zx X) xp ML (exs c sa))) (hb : PSs X xb (rX (zx X) xp ML (exs c sb))) : PS X (.If a xa xb pos) (rX (zx X) xp ML (ex c (.ifs ea sa sb))) := psI (ps_if h.t ha hb) fun D σ H ⟨Sh, F, ms, env, s, hm, out⟩ => by
  have out : Out ((testM (isRd ea) (ev c ea) env).bind fun k e => if k = true then exs c sa e else exs c sb e) _ _ := out
  refine ⟨Sh, F, ms, env, s, out.bind.imp (fun k e1 h1 H1 Sh1 s1 a1 => ?_) fun _ _ _ x => x⟩
  cases k with
  | true =>
    rw [if_pos rfl] at h1 ⊢
    exact ⟨Sh1, F, ms, e1, s1, hm, h1.imp (fun f e2 h2 => h2.after a1) fun _ _ _ x => xp.mono [] a1 x⟩
  | false =>
    rw [if_neg Bool.false_ne_true] at h1 ⊢
    exact ⟨Sh1, F, ms, e1, s1, hm, h1.imp (fun f e2 h2 => h2.after a1) fun _ _ _ x => xp.mono [] a1 x⟩
/-! ### for -/
structure FoW (Z : Rw) (xp : Xp Z) (Sh1 H1 : Hp) (F : List Addr) (ms : List (Nat × V)) (l : List T) (tg : T → M Unit) (body : M Fl) (P : Fl → Env → Prop) (i : Nat) (σ : L2.St) (H : Hp) : Prop where
  st : ∃ Sh e, SR Z Sh F ms σ H e ∧ Aft Sh1 F H1 Sh H ∧ i ≤ l.length ∧ Out (forL tg body (l.drop i) e) P (xp.p Sh1 F ms H1)
theorem asg_out {tg : Tg} {t : T} {e : Env} {P : Unit → Env → Prop} {Y Y' : Nat → T → Env → Prop} (h : Out (asg tg t e) P Y) : Out (asg tg t e) P Y' := by
  cases q : asg tg t e with
  | no => rw [q] at h; exact h
  | ex k d e => exact (asg_noex _ _ _ _ _ _ q).elim
  | ok u e2 => rw [q] at h; exact h
end
end Vi

set_option autoImplicit false
set_option Elab.async false
set_option linter.all false
set_option maxRecDepth 100000
/-! VI: dicts, the setting half. -/
namespace Vi
open PySem PySem.Spec PyProof.Rows L2
def putX (xs : List (NestedKey × Addr × V)) (k : NestedKey) (b : Addr) (v : V) : List (NestedKey × Addr × V) := if xs.any (fun p => decide (p.1 = k)) then xs.map (fun p => if p.1 = k then (p.1, p.2.1, v) else p) else xs ++ [(k, b, v)]
abbrev XY : (NestedKey × Addr × V) → (NestedKey × Addr × Value) → Prop := fun p q => p.1 = q.1 ∧ p.2.1 = q.2.1 ∧ RelV p.2.2 q.2.2
theorem any_xy (k : NestedKey) {xs : List (NestedKey × Addr × V)} {ys : List (NestedKey × Addr × Value)} (r : Paired XY xs ys) : (xs.any fun p => decide (p.1 = k)) = (atKey ys k).isSome := by
  have := (look_rel k r).isSome_eq
  rw [Option.isSome_map] at this
  rw [← this]
  unfold lookK
  rw [Option.isSome_map, List.isSome_find?]
theorem pair_append {α β : Type} {r : α → β → Prop} {xs : List α} {ys : List β} {x : α} {y : β} (h : Paired r xs ys) (q : r x y) : Paired r (xs ++ [x]) (ys ++ [y]) := by
  induction h with
  | nil => exact .cons q .nil
  | cons h _ ih => exact .cons h ih
theorem putX_rel {xs : List (NestedKey × Addr × V)} {ys : List (NestedKey × Addr × Value)} (r : Paired XY xs ys) (k : NestedKey) (b : Addr) {v : V} {u : Value} (rv : RelV v u) : Paired XY (putX xs k b v) (storedH ys k b u) := by
  unfold putX storedH
  rw [any_xy k r]
  split
  · have aux : ∀ {xs : List (NestedKey × Addr × V)} {ys : List (NestedKey × Addr × Value)}, Paired XY xs ys → Paired XY (xs.map (fun p => if p.1 = k then (p.1, p.2.1, v) else p)) (ys.map (putAt k u)) := by
      intro xs ys r
      induction r with
      | nil => exact .nil
      | @cons p q _ _ h _ ih =>
        refine .cons ?_ ih
        unfold putAt
        dsimp only
        by_cases e : p.1 = k
        · rw [if_pos e, if_pos (h.1.symm.trans e)]
          exact ⟨h.1, h.2.1, rv⟩
        · rw [if_neg e, if_neg fun z => e (h.1.trans z)]
          exact h
    exact aux r
  · exact pair_append r ⟨rfl, rfl, rv⟩
theorem putX_len (xs : List (NestedKey × Addr × V)) (k : NestedKey) (b : Addr) (v : V) : (putX xs k b v).length ≤ xs.length + 1 := by
  unfold putX
  split
  · rw [List.length_map]; omega
  · rw [List.length_append, List.length_singleton]; omega
section
variable {X : Cx}
/-- what a store into a dict needs and leaves -/
def ZPut (Z : Rw) (Sh H : Hp) (a : Addr) (y v : V) (H' : Hp) : Prop :=
  (∃ kvs k, H a = some (.dK kvs) ∧ y = kV k ∧ kvs.length < sizeLine ∧ H' = upd H a (.dK (putK kvs k v))) ∨
  (∃ xs b t, Grow Sh H ∧ H a = some (keyedO Z.P Z.w a xs) ∧ y = .ref b ∧ kind? t = some true ∧ Rp Z Sh (.ref b) t ∧ KeysIn Z Sh xs ∧ xs.length < sizeLine ∧ H' = upd H a (keyedO Z.P Z.w a (putX xs (nk t) b v))) ∨
  (∃ b t, Grow Sh H ∧ H a = some (.dK []) ∧ y = .ref b ∧ kind? t = some true ∧ Rp Z Sh (.ref b) t ∧ H' = upd H a (keyedO Z.P Z.w a [(nk t, b, v)]))
def rSetZ (Z : Rw) : TSet := fun o i v H Q => ∃ a Sh H', o = .ref a ∧ ZPut Z Sh H a i v H' ∧ Q H'
theorem keyed_ok {P : Program} {w : World} {H : Hp} {h : Heap} {a : Addr} {xs : List (NestedKey × Addr × V)} {ys : List (NestedKey × Addr × Value)} (h1 : (a == sysModules) = false) (h2 : xs.length ≤ sizeLine) (r : Paired XY xs ys) (d : h.DictOfH (nestedKind P w) a ys) : ObjOk P w H h a (keyedO P w a xs) := by
  obtain ⟨o, es, ep, e1, e2, e3, e4, _, e5⟩ := d
  refine ⟨⟨h1, h2, ys, r, o, es, ep, e1, e2, e3, e4, e5⟩, ⟨o, e1⟩, fun g1 g2 ⟨q1, q2, zs, rz, o', es', ep', f1, f2⟩ k => ⟨q1, q2, zs, rz, o', es', ep', k _ f1, f2⟩⟩
theorem set_zdict (hu : X.A.units + 65 < cLine) : PSet X (rSetZ (zx X)) := by
  intro pins s σ H o i v ov iv u Q I ro ri rv h
  obtain ⟨a, Sh, H', eo, g, q⟩ := h
  subst eo
  cases (show ov = Value.ref a from ro)
  rcases g with ⟨kvs, k, e, ey, l, eH⟩ | ⟨xs, b, t, gr, e, ey, hk, hr, hx, l, eH⟩ | ⟨b, t, gr, e, ey, hk, hr, eH⟩
  · exact d_setItem (by omega) I (.inl ⟨kvs, k, e, ey, l, eH⟩) ri rv fun s' I' => ⟨H', I', q⟩
  · subst ey
    cases (show iv = Value.ref b from ri)
    obtain ⟨h1, h2, ys, rel, dd⟩ := keyed_at I gr (.inl e) hx
    have hz : ys.length ≤ sizeLine := by rw [← Paired.length rel]; exact h2
    refine wpAny_setItem_heap (hsz := hz) (room8 hu) (key1_is I gr hk hr) dd fun h' dd' hs => ⟨H', ?_, q⟩
    have he : ∃ q, h'.get? a = some q := let ⟨q, _, _, hq, _⟩ := dd'; ⟨q, hq⟩
    subst eH
    exact d_write I (by rw [e]; exact True.intro) hs he (keyed_ok h1 (by have := putX_len xs (nk t) b v; omega) (putX_rel rel (nk t) b rv) dd')
  · subst ey
    cases (show iv = Value.ref b from ri)
    obtain ⟨h1, dd⟩ := empty_at I (.inl e)
    refine wpAny_setItem_heap (hsz := Nat.zero_le _) (room8 hu) (key1_is I gr hk hr) dd fun h' dd' hs => ⟨H', ?_, q⟩
    have he : ∃ q, h'.get? a = some q := let ⟨q, _, _, hq, _⟩ := dd'; ⟨q, hq⟩
    subst eH
    exact d_write I (by rw [e]; exact True.intro) hs he (keyed_ok h1 (by show 1 ≤ sizeLine; decide) (.cons ⟨rfl, rfl, rv⟩ .nil) dd')
theorem set_any (hu : X.A.units + 65 < cLine) : PSet X (fun o i v H Q => rSetL o i v H Q ∨ rSetZ (zx X) o i v H Q) := by
  intro pins s σ H o i v ov iv u Q I ro ri rv h
  rcases h with h | h
  · exact set_list pins s σ H o i v ov iv u Q I ro ri rv h
  · exact set_zdict hu pins s σ H o i v ov iv u Q I ro ri rv h
end
section
variable {Z : Rw} {Sh H : Hp} {B : List Addr}
theorem VRep.inv_cons {v : V} {vs : List V} {t : T} {ts : List T} (r : VRep Z Sh H (v :: vs) (t :: ts) B) : ∃ B0 B1, B = B0 ++ B1 ∧ VRep Z Sh H vs ts B1 ∧ (∀ vs' ts' B', VRep Z Sh H vs' ts' B' → VRep Z Sh H (v :: vs') (t :: ts') (B0 ++ B')) := by
  cases r with
  | sh h r => exact ⟨[], B, rfl, r, fun _ _ B' q => .sh h q⟩
  | @own a us ls _ _ B1 h n q r => exact ⟨[a], B1, rfl, r, fun _ _ B' q' => .own h n q q'⟩
theorem VRep.append {vs : List V} {ts : List T} {v : V} {t : T} (r : VRep Z Sh H vs ts B) (h : Rp Z Sh v t) : VRep Z Sh H (vs ++ [v]) (ts ++ [t]) B := by
  induction r with
  | nil => exact .sh h .nil
  | sh h' _ ih => exact .sh h' ih
  | own h' n q _ ih => exact .own h' n q ih
theorem vmap {α β : Type} {f : α → Bool} {g : β → Bool} {pv : α → V} {pt : β → T} {v : V} {t : T} (h : Rp Z Sh v t) : ∀ {xs : List α} {ys : List β} {B : List Addr}, xs.map f = ys.map g → VRep Z Sh H (xs.map pv) (ys.map pt) B →
    ∃ B', VRep Z Sh H (xs.map fun x => if f x = true then v else pv x) (ys.map fun y => if g y = true then t else pt y) B' ∧ B'.Sublist B
  | [], [], B, _, r => ⟨B, by cases r; exact .nil, List.Sublist.refl _⟩
  | [], _ :: _, _, e, _ => by simp at e
  | _ :: _, [], _, e, _ => by simp at e
  | x :: xs, y :: ys, B, e, r => by
    simp only [List.map_cons, List.cons.injEq] at e
    obtain ⟨B0, B1, rfl, r1, r2⟩ := VRep.inv_cons r
    obtain ⟨B', q1, q2⟩ := vmap h e.2 r1
    by_cases hf : f x = true
    · refine ⟨B', ?_, q2.trans (List.sublist_append_right _ _)⟩
      simp only [List.map_cons, hf, ← e.1, if_true]
      exact .sh h q1
    · have hg : ¬ g y = true := by rw [← e.1]; exact hf
      refine ⟨B0 ++ B', ?_, List.Sublist.append (List.Sublist.refl _) q2⟩
      simp only [List.map_cons]
      rw [if_neg hf, if_neg hg]
      exact r2 _ _ B' q1
theorem sel_ite {α β : Type} (p : α → Bool) (f : α → β) (g : α → β) (x : α) (q : α → α) (h : ∀ x, p x = true → f (q x) = g x) : f (if p x = true then q x else x) = if p x = true then g x else f x := by
  by_cases z : p x = true
  · rw [if_pos z, if_pos z, h x z]
  · rw [if_neg z, if_neg z]
theorem vput0 {kvs : List (Key × V)} {l : List (T × T)} {k : Key} {v : V} {t : T} (hk : kvs.map (fun p => keyT p.1) = l.map (·.1)) (r : VRep Z Sh H (kvs.map (·.2)) (l.map (·.2)) B) (h : Rp Z Sh v t) :
    ∃ B', VRep Z Sh H ((putK kvs k v).map (·.2)) ((dput l (keyT k) t).map (·.2)) B' ∧ B'.Sublist B := by
  unfold putK dput
  rw [any_rel k hk]
  by_cases c : dhas l (keyT k) = true
  · rw [if_pos c, if_pos c]
    have e : kvs.map (fun p => decide (p.1 = k)) = l.map (fun q => keq q.1 (keyT k)) := by
      have h1 : (kvs.map (fun p => keyT p.1)).map (fun z => keq z (keyT k)) = (l.map (·.1)).map (fun z => keq z (keyT k)) := by rw [hk]
      rw [List.map_map, List.map_map] at h1
      rw [← show _ = l.map (fun q => keq q.1 (keyT k)) from h1]
      apply List.map_congr_left
      intro p _
      exact (keq_keyT p.1 k).symm
    obtain ⟨B', q1, q2⟩ := vmap h e r
    refine ⟨B', ?_, q2⟩
    rw [List.map_map, List.map_map]
    have e1 : ((fun p : Key × V => p.2) ∘ fun kv => if kv.1 = k then (kv.1, v) else kv) = fun x => if decide (x.1 = k) = true then v else x.2 := by
      funext x
      simp only [Function.comp, decide_eq_true_eq]
      split <;> rfl
    have e2 : ((fun p : T × T => p.2) ∘ fun p => if keq p.1 (keyT k) = true then (p.1, t) else p) = fun x => if keq x.1 (keyT k) = true then t else x.2 := by
      funext x
      simp only [Function.comp]
      split <;> rfl
    rw [e1, e2]
    exact q1
  · rw [if_neg c, if_neg c, List.map_append, List.map_append]
    exact ⟨B, r.append h, List.Sublist.refl _⟩
theorem any_rel1 {xs : List (NestedKey × Addr × V)} {l : List (T × T)} {k : T} (hk : xs.map (·.1) = l.map (fun q => nk q.1)) (hp : ∀ q ∈ l, kind? q.1 = some true) (h : kind? k = some true) : xs.map (fun p => decide (p.1 = nk k)) = l.map (fun q => keq q.1 k) := by
  have h1 : (xs.map (·.1)).map (fun z => decide (z = nk k)) = (l.map (fun q => nk q.1)).map (fun z => decide (z = nk k)) := by rw [hk]
  rw [List.map_map, List.map_map] at h1
  rw [show xs.map (fun p => decide (p.1 = nk k)) = _ from h1]
  apply List.map_congr_left
  intro q hq
  obtain ⟨l1, e1, p1⟩ := key1_tup (hp q hq)
  obtain ⟨l2, e2, p2⟩ := key1_tup h
  show decide (nk q.1 = nk k) = _
  rw [e1, e2]
  exact (keq_nk 8 8 _ _ (by simpa [isPart] using p1) (by simpa [isPart] using p2)).symm
theorem putX_any {xs : List (NestedKey × Addr × V)} {l : List (T × T)} {k : T} (e : xs.map (fun p => decide (p.1 = nk k)) = l.map (fun q => keq q.1 k)) : (xs.any fun p => decide (p.1 = nk k)) = dhas l k := by
  unfold dhas
  have h := congrArg (fun z : List Bool => z.any id) e
  simp only [List.any_map] at h
  exact h
theorem vput1 {xs : List (NestedKey × Addr × V)} {l : List (T × T)} {k : T} {b : Addr} {v : V} {t : T} (hk : xs.map (·.1) = l.map (fun q => nk q.1)) (hp : ∀ q ∈ l, kind? q.1 = some true) (h : kind? k = some true)
    (hr : ∀ (i : Nat) (p : NestedKey × Addr × V) (q : T × T), xs[i]? = some p → l[i]? = some q → Rp Z Sh (.ref p.2.1) q.1) (hb : Rp Z Sh (.ref b) k) (r : VRep Z Sh H (xs.map (·.2.2)) (l.map (·.2)) B) (hv : Rp Z Sh v t) :
    (putX xs (nk k) b v).map (·.1) = (dput l k t).map (fun q => nk q.1) ∧ (∀ q ∈ dput l k t, kind? q.1 = some true) ∧ dput l k t ≠ [] ∧
    (∀ (i : Nat) (p : NestedKey × Addr × V) (q : T × T), (putX xs (nk k) b v)[i]? = some p → (dput l k t)[i]? = some q → Rp Z Sh (.ref p.2.1) q.1) ∧
    ∃ B', VRep Z Sh H ((putX xs (nk k) b v).map (·.2.2)) ((dput l k t).map (·.2)) B' ∧ B'.Sublist B := by
  have e := any_rel1 hk hp h
  have len : xs.length = l.length := by have := congrArg List.length hk; simpa using this
  unfold putX dput
  rw [putX_any e]
  by_cases c : dhas l k = true
  · rw [if_pos c, if_pos c]
    refine ⟨?_, ?_, ?_, ?_, ?_⟩
    · rw [List.map_map, List.map_map]
      have e1 : ((fun p : NestedKey × Addr × V => p.1) ∘ fun p => if p.1 = nk k then (p.1, p.2.1, v) else p) = fun p => p.1 := by
        funext x; simp only [Function.comp]; split <;> rfl
      have e2 : ((fun q : T × T => nk q.1) ∘ fun p => if keq p.1 k = true then (p.1, t) else p) = fun q => nk q.1 := by
        funext x; simp only [Function.comp]; split <;> rfl
      rw [e1, e2, hk]
    · intro q hq
      obtain ⟨q', h1, rfl⟩ := List.mem_map.mp hq
      have := hp q' h1
      split <;> exact this
    · intro z
      rw [List.map_eq_nil_iff] at z
      subst z
      simp [dhas] at c
    · intro i p q h1 h2
      rw [List.getElem?_map] at h1 h2
      obtain ⟨p', h3, rfl⟩ := Option.map_eq_some_iff.mp h1
      obtain ⟨q', h4, rfl⟩ := Option.map_eq_some_iff.mp h2
      have := hr i p' q' h3 h4
      split <;> split <;> exact this
    · obtain ⟨B', q1, q2⟩ := vmap (pv := fun p : NestedKey × Addr × V => p.2.2) (pt := fun q : T × T => q.2) hv e r
      refine ⟨B', ?_, q2⟩
      rw [List.map_map, List.map_map]
      have e1 : ((fun p : NestedKey × Addr × V => p.2.2) ∘ fun p => if p.1 = nk k then (p.1, p.2.1, v) else p) = fun x => if decide (x.1 = nk k) = true then v else x.2.2 := by
        funext x
        simp only [Function.comp, decide_eq_true_eq]
        split <;> rfl
      have e2 : ((fun p : T × T => p.2) ∘ fun p => if keq p.1 k = true then (p.1, t) else p) = fun x => if keq x.1 k = true then t else x.2 := by
        funext x
        simp only [Function.comp]
        split <;> rfl
      rw [e1, e2]
      exact q1
  · rw [if_neg c, if_neg c]
    refine ⟨by rw [List.map_append, List.map_append, hk]; rfl, ?_, by simp, ?_, B, ?_, List.Sublist.refl _⟩
    · intro q hq
      rcases List.mem_append.mp hq with hq | hq
      · exact hp q hq
      · simp at hq; subst hq; exact h
    · intro i p q h1 h2
      by_cases hi : i < xs.length
      · rw [List.getElem?_append_left hi] at h1
        rw [List.getElem?_append_left (by rw [← len]; exact hi)] at h2
        exact hr i p q h1 h2
      · rw [List.getElem?_append_right (by omega)] at h1
        rw [List.getElem?_append_right (by rw [← len]; omega), ← len] at h2
        cases j : i - xs.length with
        | zero => rw [j] at h1 h2; simp at h1 h2; subst h1; subst h2; exact hb
        | succ j' => rw [j] at h1; simp at h1
    · rw [List.map_append, List.map_append]
      exact r.append hv
variable {F : List Addr} {ms : List (Nat × V)} {σ : L2.St} {env : Env} {A : List Addr}
theorem keysIn_of {xs : List (NestedKey × Addr × V)} {l : List (T × T)} (hk : xs.map (·.1) = l.map (fun q => nk q.1)) (hp : ∀ q ∈ l, kind? q.1 = some true) (hr : ∀ (i : Nat) (p : NestedKey × Addr × V) (q : T × T), xs[i]? = some p → l[i]? = some q → Rp Z Sh (.ref p.2.1) q.1) : KeysIn Z Sh xs := by
  intro p hpx
  obtain ⟨i, hi⟩ := List.getElem?_of_mem hpx
  have hlen : xs.length = l.length := by have := congrArg List.length hk; simpa using this
  obtain ⟨hi', _⟩ := List.getElem?_eq_some_iff.mp hi
  have hq : l[i]? = some l[i] := List.getElem?_eq_getElem (by omega)
  have e : nk (l[i]).1 = p.1 := by
    have := congrArg (fun z => z[i]?) hk
    simp only [List.getElem?_map, hi, hq] at this
    exact (Option.some.inj this).symm
  exact ⟨_, hp _ (List.mem_of_getElem? hq), e, hr i p _ hi hq⟩
/-- a store into a dict of one's own -/
theorem zput {x y v : V} {l : List (T × T)} {k t : T} (g : Grow Sh H) (rx : Rep Z Sh H x (.dic true l) A) (nd : A.Nodup) (ry : Rp Z Sh y k) (hk : kindD l k = true) (hl : l.length < line) (rv : Rp Z Sh v t) :
    ∃ a H' A', x = .ref a ∧ ZPut Z Sh H a y v H' ∧ (∀ b, b ≠ a → H' b = H b) ∧ Rep Z Sh H' x (.dic true (dput l k t)) A' ∧ (∀ b ∈ A', b ∈ A) ∧ a ∈ A ∧ Sh a = none ∧ A'.Nodup := by
  have hz := line_eq
  obtain ⟨kb, hb, hl2⟩ := kindD_some hk
  have mono : ∀ {a : Addr} {B B' : List Addr} {o : HO} {vs : List V} {ts : List T}, a ∉ B → B'.Sublist B → VRep Z Sh H vs ts B' → VRep Z Sh (upd H a o) vs ts B' := fun {a B B' o vs ts} na sb r => r.mono (fun _ _ z => z) fun b hb => ⟨upd_ne fun z => na (z ▸ sb.subset hb), (r.there b hb).1⟩
  cases rx with
  | sh r => cases r
  | @dic0 a kvs l' B h n hkk hs =>
    obtain ⟨naB, ndB⟩ := List.nodup_cons.mp nd
    have hlen : kvs.length = l.length := by have := congrArg List.length hkk; simpa using this
    cases kb with
    | false =>
      obtain ⟨key, e, hv⟩ := keyT_of0 hb ry
      subst e
      obtain ⟨B', q1, q2⟩ := vput0 (k := key) hkk hs rv
      refine ⟨a, _, a :: B', rfl, .inl ⟨kvs, key, h, hv, by rw [hlen, ← hz]; exact hl, rfl⟩, fun b hb => upd_ne hb, .dic0 upd_same n (putK_keys key v t hkk) (mono naB q2 q1), fun b hb => ?_, List.mem_cons_self, n, List.nodup_cons.mpr ⟨fun z => naB (q2.subset z), q2.nodup ndB⟩⟩
      rcases List.mem_cons.mp hb with rfl | hb
      · exact List.mem_cons_self
      · exact List.mem_cons_of_mem _ (q2.subset hb)
    | true =>
      have hn : l = [] := by
        rcases hl2 with hl2 | ⟨p, r, rfl, hp⟩
        · exact hl2
        · cases kvs with
          | nil => simp at hkk
          | cons q kvs =>
            simp only [List.map_cons, List.cons.injEq] at hkk
            rw [← hkk.1, keyT_kind] at hp; cases hp
      subst hn
      have : kvs = [] := List.length_eq_zero_iff.mp hlen
      subst this
      obtain ⟨b', e⟩ := key1_ref hb ry
      subst e
      cases hs
      refine ⟨a, _, [a], rfl, .inr (.inr ⟨b', k, g, h, rfl, hb, ry, rfl⟩), fun b hb => upd_ne hb, ?_, fun b hb => hb, List.mem_cons_self, n, by simp⟩
      have e : dput [] k t = [(k, t)] := rfl
      rw [e]
      refine .dic1 (xs := [(nk k, b', v)]) upd_same n rfl ⟨by simp, fun q hq => by simp at hq; subst hq; exact hb⟩ (fun i p q h1 h2 => ?_) (.sh rv .nil)
      cases i with
      | zero => simp at h1 h2; subst h1; subst h2; exact ry
      | succ i => simp at h1
  | @dic1 a xs l' B h n hkk hp hr hs =>
    obtain ⟨naB, ndB⟩ := List.nodup_cons.mp nd
    have hlen : xs.length = l.length := by have := congrArg List.length hkk; simpa using this
    have hb1 : kb = true := by
      rcases hl2 with rfl | ⟨p, r, rfl, hq⟩
      · exact absurd rfl hp.1
      · have := hp.2 p List.mem_cons_self
        rw [hq] at this; cases this; rfl
    subst hb1
    obtain ⟨b', e⟩ := key1_ref hb ry
    subst e
    obtain ⟨f1, f2, f3, f4, B', q1, q2⟩ := vput1 hkk hp.2 hb hr ry hs rv
    refine ⟨a, _, a :: B', rfl, .inr (.inl ⟨xs, b', k, g, h, rfl, hb, ry, keysIn_of hkk hp.2 hr, by rw [hlen, ← hz]; exact hl, rfl⟩), fun b hb => upd_ne hb, .dic1 upd_same n f1 ⟨f3, f2⟩ f4 (mono naB q2 q1), fun b hb => ?_, List.mem_cons_self, n, List.nodup_cons.mpr ⟨fun z => naB (q2.subset z), q2.nodup ndB⟩⟩
    rcases List.mem_cons.mp hb with rfl | hb
    · exact List.mem_cons_self
    · exact List.mem_cons_of_mem _ (q2.subset hb)
end
end Vi

set_option autoImplicit false
set_option Elab.async false
set_option linter.all false
set_option maxRecDepth 100000
/-! VI: loops, parallel stores, changes in place. -/
namespace Vi
open PySem PySem.Spec PyProof.Rows L2
section
variable {X : Cx} {c : Cfg} {xp : Xp (zx X)} {ML : List Nat} {a b : Expr} {ea eb : E} {pos : Pos} {st : Stmt} {sts : List Stmt}
theorem ss_for {tg : Tg} {it : Vi.It} {ss : Ss} {etg iter : Expr} {body : List Stmt} (hp : PassesOwn (model X.prog X.w) X.A X.env X.xe) (hc : X.calm = true) (hi : PI X etg iter (rI (zx X) xp (evi c it))) (hg : PG X etg (rTg (zx X) ML tg)) (hb : PSs X body (rX (zx X) xp ML (exs c ss))) (hs : ∀ x, foldedSetIterable iter X.env x = pure x) :
    PS X (.For etg iter body [] pos) (rX (zx X) xp ML (ex c (.for tg it ss))) := psI (ps_for hp hc hi hg hb hs) fun D σ H ⟨Sh, F, ms, env, s, hm, out⟩ => by
  have out : Out ((evi c it env).bind fun l e => forL (asg tg) (exs c ss) l e) _ _ := out
  refine ⟨Sh, F, ms, env, s, out.bind.imp (fun l e1 h1 J H1 Sh1 s1 w a1 => ?_) fun _ _ _ x => x⟩
  have h1 : Out (forL (asg tg) (exs c ss) l e1) (fun f e => StEnd (zx X) D Sh1 F ms H1 f e) (xp.p Sh1 F ms H1) := h1.imp (fun f e q => q.after a1) fun _ _ _ x => xp.mono [] a1 x
  generalize hP : (fun (f : Fl) (e : Env) => StEnd (zx X) D Sh1 F ms H1 f e) = P at h1
  refine ⟨fun i m σ H => m = l.length - i ∧ FoW (zx X) xp Sh1 H1 F ms l (asg tg) (exs c ss) P i σ H, ⟨l.length, by simp, ⟨Sh1, e1, s1, Aft.refl, Nat.zero_le _, by simpa using h1⟩⟩, ?_⟩
  rintro i m σ2 H2 ⟨rfl, ⟨Sh2, e2, s2, a2, hi2, h2⟩⟩
  by_cases hlt : i < l.length
  · refine .inr ⟨w.go i Sh2 H2 a2.grow s2.sub hlt, fun σ' H' => FoW (zx X) xp Sh1 H1 F ms l (asg tg) (exs c ss) P (i + 1) σ' H', fun σ' H' q => ⟨l.length - (i + 1), by omega, rfl, q⟩, fun x H' y => ?_⟩
    have hx : l[i]? = some l[i] := List.getElem?_eq_getElem hlt
    obtain ⟨Sh3, s3, a3, r3⟩ := w.yld i Sh2 H2 x H' F ms σ2 e2 l[i] a2.grow s2 y hx
    rw [List.drop_eq_getElem_cons hlt] at h2
    have h2 : Out ((asg tg l[i] e2).bind fun _ e => (exs c ss e).bind fun f e => match f with
      | .nx => forL (asg tg) (exs c ss) (l.drop (i + 1)) e
      | .cnt => forL (asg tg) (exs c ss) (l.drop (i + 1)) e
      | .brk => .ok .nx e
      | .ret t => .ok (.ret t) e) _ _ := h2
    have a13 := a2.trans a3
    refine ⟨Sh3, F, ms, e2, l[i], s3, hm, r3, (asg_out h2.bind).imp (fun _ e3 h3 σ4 s4 _ => ?_) fun _ _ _ x => x⟩
    refine ⟨Sh3, F, ms, e3, s4, hm, (show Out ((exs c ss e3).bind _) _ _ from h3).bind.imp (fun f e5 h5 => ?_) fun _ _ _ x => xp.mono [] a13 x⟩
    cases f with
    | nx => exact fun σ' H5 Sh5 s5 a5 => ⟨Sh5, e5, s5, a13.trans a5, hlt, h5⟩
    | cnt => exact fun σ' H5 Sh5 s5 a5 => ⟨Sh5, e5, s5, a13.trans a5, hlt, h5⟩
    | brk =>
      subst hP
      exact fun σ' H5 Sh5 s5 a5 => (show StEnd (zx X) D Sh1 F ms H1 .nx e5 from h5) σ' H5 Sh5 s5 (a13.trans a5)
    | ret t =>
      subst hP
      exact fun v σ' H5 Sh5 A s5 r5 a5 => (show StEnd (zx X) D Sh1 F ms H1 (.ret t) e5 from h5) v σ' H5 Sh5 A s5 r5 (a13.trans a5)
  · have e3 : i = l.length := by omega
    subst e3
    rw [List.drop_length] at h2
    subst hP
    exact .inl ⟨w.stop _ Sh2 H2 a2.grow s2.sub (Nat.le_refl _), (show StEnd (zx X) D Sh1 F ms H1 .nx e2 from h2) σ2 H2 Sh2 s2 a2⟩
/-! ### while -/
theorem ss_whl {ss : Ss} {body : List Stmt} (hp : PassesOwn (model X.prog X.w) X.A X.env X.xe) (h : SE X c xp ea a) (hb : PSs X body (rX (zx X) xp ML (exs c ss))) : PS X (.While a body [] pos) (rX (zx X) xp ML (ex c (.whl ea ss))) := psI (ps_while hp h.t hb) fun D σ H ⟨Sh, F, ms, env, s, hm, out⟩ => by
  have out : Out (whlL (testM (isRd ea) (ev c ea)) (exs c ss) many env) _ _ := out
  generalize many = n at out
  generalize hP : (fun (f : Fl) (e : Env) => StEnd (zx X) D Sh F ms H f e) = P at out
  refine ⟨fun m σ2 H2 => ∃ Sh2 e2, SR (zx X) Sh2 F ms σ2 H2 e2 ∧ Aft Sh F H Sh2 H2 ∧ Out (whlL (testM (isRd ea) (ev c ea)) (exs c ss) m e2) P (xp.p Sh F ms H), ⟨n, Sh, env, s, Aft.refl, out⟩, ?_⟩
  rintro m σ2 H2 ⟨Sh2, e2, s2, a2, h2⟩
  cases m with
  | zero => exact h2.elim
  | succ m =>
    have h2 : Out ((testM (isRd ea) (ev c ea) e2).bind fun b e => if b = true then (exs c ss e).bind fun f e => match f with
      | .nx => whlL (testM (isRd ea) (ev c ea)) (exs c ss) m e
      | .cnt => whlL (testM (isRd ea) (ev c ea)) (exs c ss) m e
      | .brk => .ok .nx e
      | .ret t => .ok (.ret t) e
      else .ok .nx e) _ _ := h2
    refine ⟨Sh2, F, ms, e2, s2, h2.bind.imp (fun b e3 h3 H3 Sh3 s3 a3 => ?_) fun _ _ _ x => xp.mono [] a2 x⟩
    have a13 := a2.trans a3
    cases b with
    | false =>
      rw [if_neg Bool.false_ne_true] at h3
      dsimp only
      rw [if_neg Bool.false_ne_true]
      subst hP
      exact (show StEnd (zx X) D Sh F ms H .nx e3 from h3) σ2 H3 Sh3 s3 a13
    | true =>
      rw [if_pos rfl] at h3
      dsimp only
      rw [if_pos rfl]
      refine ⟨fun σ' H' => ∃ Sh2 e2, SR (zx X) Sh2 F ms σ' H' e2 ∧ Aft Sh F H Sh2 H' ∧ Out (whlL (testM (isRd ea) (ev c ea)) (exs c ss) m e2) P (xp.p Sh F ms H), fun σ' H' q => ⟨m, Nat.lt_succ_self _, q⟩, ?_⟩
      refine ⟨Sh3, F, ms, e3, s3, hm, h3.bind.imp (fun f e5 h5 => ?_) fun _ _ _ x => xp.mono [] a13 x⟩
      cases f with
      | nx => exact fun σ' H5 Sh5 s5 a5 => ⟨Sh5, e5, s5, a13.trans a5, h5⟩
      | cnt => exact fun σ' H5 Sh5 s5 a5 => ⟨Sh5, e5, s5, a13.trans a5, h5⟩
      | brk =>
        subst hP
        exact fun σ' H5 Sh5 s5 a5 => (show StEnd (zx X) D Sh F ms H .nx e5 from h5) σ' H5 Sh5 s5 (a13.trans a5)
      | ret t =>
        subst hP
        exact fun v σ' H5 Sh5 A s5 r5 a5 => (show StEnd (zx X) D Sh F ms H (.ret t) e5 from h5) v σ' H5 Sh5 A s5 r5 (a13.trans a5)
/-! ### a, b = x, y -/
/-- values in flight -/
def rK (Z : Rw) (xp : Xp Z) (m : M (List T)) : TA := fun σ H Q => ∃ Sh F ms env, SR Z Sh F ms σ H env ∧
  Out (m env) (fun ts env' => ∀ vs H' Sh' AA, SR Z Sh' (FL AA ++ F) ms σ H' env' → ArgsRel Z σ Sh' H' vs (ts.map .inl) AA → Aft Sh F H Sh' H' → Q vs H') (xp.p Sh F ms H)
theorem ka_nil : PA X [] (rK (zx X) xp (evk c .nil)) := paI pa_nil fun σ H Q ⟨Sh, F, ms, env, sr, out⟩ => (show Out (R.ok [] env) _ _ from out) [] H Sh [] sr .nil Aft.refl
theorem ka_cons {es : Es} {xs : List Expr} (h : SE X c xp ea a) (hr : PA X xs (rK (zx X) xp (evk c es))) (hs : notStar a = true) : PA X (a :: xs) (rK (zx X) xp (evk c (.cons ea es))) :=
  paI (pa_cons (pe_strong h) hr (star_of hs)) fun σ H Q ⟨Sh, F, ms, env, sr, out⟩ => by
    have out : Out ((strong (isRd ea) (ev c ea) env).bind fun t e => (evk c es e).bind fun l e => R.ok (t :: l) e) _ _ := out
    refine ⟨Sh, F, ms, env, sr, out.bind.imp (fun t e1 h1 v H1 Sh1 A s1 r1 a1 => ?_) fun _ _ _ x => x⟩
    refine ⟨Sh1, A ++ F, ms, e1, s1, h1.bind.imp (fun l e2 h2 vs H2 Sh2 AA s2 r2 a2 => ?_) fun _ _ _ x => xp.mono A a1 x⟩
    refine (show ∀ vs H' Sh' AA, _ from h2) (v :: vs) H2 Sh2 (A :: AA) (by rw [FL, List.append_assoc]; exact s2) (.val (r1.stay a2 (fun x hx => List.mem_append_left _ hx) fun x hx => ?_) r2) (a1.trans (a2.less fun x hx => List.mem_append_right _ hx))
    exact (s2.fr.2 x (List.mem_append_right _ hx)).1
theorem setVar_out {i : Nat} {t : T} {e : Env} {α : Type} {P : α → Env → Prop} {Y : Nat → T → Env → Prop} {k : Unit → Env → R α} (h : Out ((setVar i t e).bind k) P Y) : i < e.length ∧ Out (k () (e.set i (some t))) P Y := by
  unfold setVar at h
  by_cases hi : i < e.length
  · rw [if_pos hi] at h; exact ⟨hi, h⟩
  · rw [if_neg hi] at h; exact h.elim
theorem ss_par2 {i j : Nat} {es : Es} {x y : Str} {px py pt : Pos} {kt k2 : Nat} {pt2 : Pos} (hc : X.calm = true) (hN : X.N.Nodup) (hi : X.N[i]? = some x) (hj : X.N[j]? = some y) (hij : i ≠ j) (hx : X.env.scope.names.lookup x = some .local) (hy : X.env.scope.names.lookup y = some .local)
    (hMi : i ∉ ML) (hMj : j ∉ ML) (ha : PA X [a, b] (rK (zx X) xp (evk c es))) (hw : swappedStores [.Tuple [.Name x px, .Name y py] kt pt] (.Tuple [a, b] k2 pt2) X.env = pure (some [x, y])) :
    PS X (.Assign [.Tuple [.Name x px, .Name y py] kt pt] (.Tuple [a, b] k2 pt2) pos) (rX (zx X) xp ML (ex c (.par [i, j] es))) := psI (ps_par hc hN hi hj hij hx hy ha hw rfl) fun D σ H ⟨Sh, F, ms, env, s, hm, out⟩ => by
  have out : Out ((evk c es env).bind fun l e => (parM [i, j] l e).bind fun _ e => R.ok Fl.nx e) _ _ := out
  refine ⟨Sh, F, ms, env, s, out.bind.imp (fun l e1 h1 vs H1 Sh1 AA s1 r1 a1 => ?_) fun _ _ _ x => x⟩
  match l, vs, AA, r1, h1, s1 with
  | [], _, _, _, h1, _ => exact h1.elim
  | [t], _, _, .val q1 .nil, h1, _ =>
    have h1 : Out (((setVar i t e1).bind fun _ e => parM [j] [] e).bind fun _ e => R.ok Fl.nx e) _ _ := h1
    cases q : setVar i t e1 with
    | no => rw [q] at h1; exact h1.elim
    | ok u e => rw [q] at h1; exact (show Out ((R.no : R Unit).bind fun _ e => R.ok Fl.nx e) _ _ from h1).elim
    | ex k d e => unfold setVar at q; split at q <;> cases q
  | [t, u], [v, w], [A, B], .val q1 (.val q2 .nil), h1, s1 =>
    refine ⟨v, w, rfl, ?_⟩
    have h1 : Out (((setVar i t e1).bind fun _ e => (setVar j u e).bind fun _ e => R.ok () e).bind fun _ e => R.ok Fl.nx e) _ _ := h1
    have h2 : Out ((setVar i t e1).bind fun _ e => (setVar j u e).bind fun _ e => R.ok () e) _ _ := h1.bind
    obtain ⟨l1, h3⟩ := setVar_out h2
    obtain ⟨l2, h4⟩ := setVar_out h3
    have s1 : SR (zx X) Sh1 (B ++ (A ++ F)) ms σ H1 e1 := by
      have := s1
      simp only [FL, List.nil_append, List.append_assoc] at this
      exact this
    have s2 := s1.store q2 (i := j) (by rw [List.length_set] at l2; exact l2) fun p hp z => hMj (z ▸ hm p hp)
    have s3 := s2.store q1 (i := i) (by rw [List.length_set]; exact l1) fun p hp z => hMi (z ▸ hm p hp)
    rw [List.set_comm _ _ (Ne.symm hij), List.set_comm _ _ (Ne.symm hij)] at s3
    exact (show StEnd (zx X) D Sh F ms H .nx _ from h4) _ H1 Sh1 s3 a1
  | t :: u :: w :: r, _, _, _, h1, _ =>
    have h1 : Out (((setVar i t e1).bind fun _ e => (setVar j u e).bind fun _ e => parM [] (w :: r) e).bind fun _ e => R.ok Fl.nx e) _ _ := h1
    have h2 := h1.bind
    obtain ⟨l1, h3⟩ := setVar_out h2
    obtain ⟨l2, h4⟩ := setVar_out h3
    exact h4.elim
/-! ### x.append(y) -/
theorem isOwnL_some {e : Env} {i : Nat} (h : isOwnL e i = true) : ∃ l, (e[i]?).bind id = some (.lst true l) := by
  unfold isOwnL at h
  split at h
  · rename_i l e; exact ⟨l, e⟩
  · cases h
theorem ss_app {i : Nat} {o : Expr} {apos cpos : Pos} (hM : True) (ho : PE X o (tVar i)) (h : SE X c xp ea a) (h1 : notSuper o = true) (h2 : notStar a = true) (h3 : (apos.endLine == cpos.line) = true) :
    PS X (.Expr (.Call (.Attribute o "append" apos) [a] [] cpos) pos) (rX (zx X) xp ML (ex c (.app i ea))) :=
  psI (ps_expr (pe_bm PySem.F.plainAttrs_list PySem.F.slot_list_append PySem.F.type_list_append mt_append ho (pa_cons (pe_frzS h) pa_nil (star_of h2)) (base_of h1) (few1 h2) h3 (star_of h2) any1) rfl) fun D σ H ⟨Sh, F, ms, env, s, hm, out⟩ => by
    have out : Out (if isOwnL env i = true then (strong (isRd ea) (ev c ea) env).bind fun t e => (appM i t e).bind fun _ e => R.ok Fl.nx e else .no) _ _ := out
    by_cases hq : isOwnL env i = true
    · rw [if_pos hq] at out
      obtain ⟨l0, g0⟩ := isOwnL_some hq
      obtain ⟨v, A, e1, r, _⟩ := s.get g0
      obtain ⟨p, vs0, rfl, q, _⟩ := r.lstI s
      refine ⟨_, e1, .inl ⟨rfl, vs0, Rd.sq q⟩, Sh, F, ms, env, s, out.bind.imp (fun t e2 h4 y H2 Sh2 s2 r2 a2 => ?_) fun _ _ _ x => x⟩
      unfold appM at h4
      split at h4
      · rename_i l g2
        by_cases hl : l.length < line
        · rw [if_pos hl] at h4
          obtain ⟨w, Ai, e3, r3, hF, nd, ch⟩ := s2.change g2
          rw [e1] at e3; cases e3
          cases r3 with
          | sh h' => cases h'
          | @lst _ vs _ hh hn hs =>
            have hz := line_eq
            refine ⟨p, vs, y, rfl, rfl, hh, by rw [hs.1, ← hz]; exact hl, ?_⟩
            refine (show StEnd (zx X) D Sh F ms H .nx _ from h4) σ _ Sh2 (ch Sh2 (upd H2 p (.lst (vs ++ [y]))) (.lst true (l ++ [fz t])) [p] (fun _ _ z => z) (fun a o z => by rw [upd_ne (ne_of_none z hn)]; exact s2.sub a o z)
              (fun a ha _ => ⟨upd_ne (by simpa using ha), fun z => z⟩) (.lst upd_same hn (hs.append (RpL.nil.cons r2))) (fun a ha => .inl ha) (by simp)) (a2.trans ⟨fun _ _ z => z, fun a ha => upd_ne fun z => hF p (by simp) (z ▸ ha)⟩)
        · rw [if_neg hl] at h4; exact h4.elim
      · exact h4.elim
    · rw [if_neg hq] at out; exact out.elim
/-! ### x[k] = y, x a list -/
theorem setL_some {l l' : List T} {k : Int} {t : T} (h : setL l k t = some l') : ∃ j, ixN l.length k = some j ∧ l' = l.set j t := by
  obtain ⟨j, h1, rfl⟩ := Option.map_eq_some_iff.mp h
  exact ⟨j, h1, rfl⟩
theorem isOwnX_some {e : Env} {i : Nat} (h : isOwnX e i = true) : ∃ t, (e[i]?).bind id = some t := by
  unfold isOwnX at h
  split at h
  · rename_i l e; exact ⟨_, e⟩
  · rename_i l e; exact ⟨_, e⟩
  · cases h
/-- a store behind the evaluation of its parts -/
theorem put_step {Z : Rw} {Sh H : Hp} {F : List Addr} {ms : List (Nat × V)} {σ : L2.St} {e : Env} {i : Nat} {w y v : V} {k t : T} {P : Unit → Env → Prop} {Y : Nat → T → Env → Prop} {Q : Hp → Prop} (s : SR Z Sh F ms σ H e) (hw : σ[i]? = some (some w)) (rk : Rp Z Sh y k) (rv : Rp Z Sh v (fz t)) (out : Out (putM1 i k t e) P Y)
    (h : ∀ e' H', P () e' → SR Z Sh F ms σ H' e' → Aft Sh F H Sh H' → Q H') : rSetL w y v H Q ∨ rSetZ Z w y v H Q := by
  unfold putM1 at out
  split at out
  · rename_i l g2
    split at out
    · rename_i kk
      split at out
      · rename_i l' hl
        obtain ⟨j, hj, rfl⟩ := setL_some hl
        obtain ⟨w', Ai, e4, r3, hF, nd, ch⟩ := s.change g2
        rw [hw] at e4; cases e4
        cases r3 with
        | sh h' => cases h'
        | @lst p vs _ hh hn hs =>
          cases rk
          refine .inl ⟨p, vs, kk, j, rfl, rfl, hh, by rw [hs.1]; exact hj, ?_⟩
          exact h _ _ out (ch Sh (upd H p (.lst (vs.set j v))) (.lst true (l.set j (fz t))) [p] (fun _ _ z => z) (fun a o z => by rw [upd_ne (ne_of_none z hn)]; exact s.sub a o z)
            (fun a ha _ => ⟨upd_ne (by simpa using ha), fun z => z⟩) (.lst upd_same hn (hs.set rv j)) (fun a ha => .inl ha) (by simp)) ⟨fun _ _ z => z, fun a ha => upd_ne fun z => hF p (by simp) (z ▸ ha)⟩
      · exact out.elim
    · exact out.elim
  · rename_i l g2
    by_cases hc : (kindD l k && decide (l.length < line)) = true
    · rw [if_pos hc] at out
      obtain ⟨h1, h2⟩ : kindD l k = true ∧ l.length < line := by simpa using hc
      obtain ⟨w', Ai, e4, r3, hF, nd, ch⟩ := s.change g2
      rw [hw] at e4; cases e4
      obtain ⟨a, H', A', rfl, zp, off, r', sb, ha, hn, nd'⟩ := zput s.sub r3 nd rk h1 h2 rv
      refine .inr ⟨a, Sh, H', rfl, zp, ?_⟩
      exact h _ _ out (ch Sh H' (.dic true (dput l k (fz t))) A' (fun _ _ z => z) (fun b o z => by rw [off b (fun q => by subst q; rw [hn] at z; cases z)]; exact s.sub b o z)
        (fun b hb _ => ⟨off b (fun q => hb (q ▸ ha)), fun z => z⟩) r' (fun b hb => .inl (sb b hb)) nd') ⟨fun _ _ z => z, fun b hb => off b fun q => hF a ha (q ▸ hb)⟩
    · rw [if_neg hc] at out; exact out.elim
  · exact out.elim
theorem ss_put {i : Nat} {o k : Expr} {ek : E} {p2 : Pos} (hu : X.A.units + 65 < cLine) (ho : PE X o (tVar i)) (hk : SE X c xp ek k) (h : SE X c xp ea a)
    (hs : swapsWithSole [.Subscript o k p2] a pos.line X.env = pure false) (hw : swappedStores [.Subscript o k p2] a X.env = pure none) (h1 : (assignEach [.Subscript o k p2] X.env).map (·.2) = [assign (.Subscript o k p2) X.env])
    (hsub : ∀ v, assign (.Subscript o k p2) X.env v = (do
      let ov ← holding [v] (eval o X.env)
      let iv ← holding [v, ov] (eval k X.env)
      standAt p2
      holding [v, ov, iv] (setItem ov iv v)
      release [v, ov, iv] [])) : PS X (.Assign [.Subscript o k p2] a pos) (rX (zx X) xp ML (ex c (.put i ek ea false))) :=
  psI (ps_asg (pe_frzS h) (pg_sub ho (pe_frzS hk) (set_any hu) hsub) hs hw h1) fun D σ H ⟨Sh, F, ms, env, s, hm, out⟩ => by
    have out : Out ((strong (isRd ea) (ev c ea) env).bind fun t e => if isOwnX e i = true then (strong (isRd ek) (ev c ek) e).bind fun z e => (putM1 i (fz z) (kept false t) e).bind fun _ e => R.ok Fl.nx e else .no) _ _ := out
    refine ⟨Sh, F, ms, env, s, out.bind.imp (fun t e1 h2 v H1 Sh1 s1 r1 a1 => ?_) fun _ _ _ x => x⟩
    by_cases hq : isOwnX e1 i = true
    · rw [if_pos hq] at h2
      obtain ⟨l0, g0⟩ := isOwnX_some hq
      obtain ⟨w, A, e3, _⟩ := s1.get g0
      refine ⟨w, e3, Sh1, F, ms, e1, s1, h2.bind.imp (fun z e2 h4 y H2 Sh2 s2 r2 a2 => ?_) fun _ _ _ x => xp.mono [] a1 x⟩
      have e5 : fz (kept false t) = fz t := by
        have : kept false t = fz t := by cases t <;> rfl
        rw [this, r1.fz]
      refine put_step s2 e3 r2 (t := kept false t) (by rw [e5]; exact r1.mono a2.grow) h4.bind fun e' H' q s' a3 => ?_
      exact (show StEnd (zx X) D Sh F ms H .nx _ from q) σ _ Sh2 s' ((a1.trans a2).trans a3)
    · rw [if_neg hq] at h2; exact h2.elim
/-! ### x[k], y[j] = a, b -/
/-- targets of a parallel store into items -/
def rPs (Z : Rw) (c : Cfg) (M : List Nat) (ps : Ps) : TGs := fun vs σ H Q => ∃ Sh F ms env l, SR Z Sh F ms σ H env ∧ (∀ p ∈ ms, p.1 ∈ M) ∧ RpL Z Sh vs l ∧
  Out (putsM c ps l env) (fun _ env' => ∀ H' Sh', SR Z Sh' F ms σ H' env' → Aft Sh F H Sh' H' → Q σ H') (fun _ _ _ => False)
theorem rps_nil : PGs X [] (rPs (zx X) c ML .nil) := pgsI pgs_nil fun vs σ H Q ⟨Sh, F, ms, env, l, s, hms, r, out⟩ => by
  cases l with
  | nil => exact ⟨r.inv_nil, (show Out (R.ok () env) _ _ from out) H Sh s Aft.refl⟩
  | cons _ _ => exact out.elim
theorem rps_cons {i : Nat} {o k : Expr} {ek : E} {b : Bool} {p2 : Pos} {ps : Ps} {es : List Expr} (hu : X.A.units + 65 < cLine) (ho : PE X o (tVar i)) (hk : SE X c (Xp.none (zx X)) ek k) (h2 : PGs X es (rPs (zx X) c ML ps)) (hs : (assignEach (.Subscript o k p2 :: es) X.env).map (·.2) = assign (.Subscript o k p2) X.env :: (assignEach es X.env).map (·.2))
    (hsub : ∀ v, assign (.Subscript o k p2) X.env v = (do
      let ov ← holding [v] (eval o X.env)
      let iv ← holding [v, ov] (eval k X.env)
      standAt p2
      holding [v, ov, iv] (setItem ov iv v)
      release [v, ov, iv] [])) : PGs X (.Subscript o k p2 :: es) (rPs (zx X) c ML (.cons i ek b ps)) :=
  pgsI (pgs_cons (pg_sub ho (pe_frzS hk) (set_any hu) hsub) h2 hs) fun vs σ H Q ⟨Sh, F, ms, env, l, s, hms, r, out⟩ => by
    cases l with
    | nil => exact out.elim
    | cons t l =>
      obtain ⟨v, vr, rfl, r1, r2⟩ := r.inv_cons
      have out : Out (if isOwnX env i = true then (strong (isRd ek) (ev c ek) env).bind fun z e => (putM1 i (fz z) t e).bind fun _ e => putsM c ps l e else .no) _ _ := out
      by_cases hq : isOwnX env i = true
      · rw [if_pos hq] at out
        obtain ⟨l0, g0⟩ := isOwnX_some hq
        obtain ⟨w, A, e3, _⟩ := s.get g0
        refine ⟨v, vr, rfl, w, e3, Sh, F, ms, env, s, out.bind.imp (fun z e2 h4 y H2 Sh2 s2 rk a2 => ?_) fun _ _ _ x => x⟩
        refine put_step s2 e3 rk (t := t) ?_ h4.bind fun e' H' q s' a3 => ?_
        · rw [r1.fz]
          exact r1.mono a2.grow
        · exact ⟨Sh2, F, ms, e', l, s', hms, (r2.mono a2.grow), (show Out (putsM c ps l e') _ _ from q).imp (fun _ e5 q5 H5 Sh5 s5 a5 => q5 H5 Sh5 s5 ((a2.trans a3).trans a5)) fun _ _ _ x => x⟩
      · rw [if_neg hq] at out; exact out.elim
end
end Vi

set_option autoImplicit false
set_option Elab.async false
set_option linter.all false
set_option maxRecDepth 100000
/-! VI: a, b = x, y by way of a tuple. -/
namespace Vi
open PySem PySem.Spec PyProof.Rows L2
section
variable {Z : Rw} {Sh H : Hp} {F F' : List Addr} {ms : List (Nat × V)} {σ : L2.St} {env : Env}
theorem SR.perm (s : SR Z Sh F ms σ H env) (h : F.Perm F') : SR Z Sh F' ms σ H env := by
  obtain ⟨S, h1, h2, h3⟩ := s.slots
  exact ⟨s.len, s.sub, ⟨S, h1, fun i => ⟨(h2 i).1, fun a ha hf => (h2 i).2 a ha (h.mem_iff.mpr hf)⟩, h3⟩, ⟨h.nodup_iff.mp s.fr.1, fun a ha => s.fr.2 a (h.mem_iff.mpr ha)⟩, s.ms⟩
/-- something that nobody holds -/
theorem SR.junk (s : SR Z Sh F ms σ H env) {p : Addr} {o : HO} (h : H p = none) : SR Z Sh F ms σ (upd H p o) env := by
  have hs := s.sh_none h
  refine SR.step (A := []) (A' := []) s (fun _ _ e => e) (fun a u e => ?_) (fun a _ ⟨u, e⟩ => ⟨upd_ne (ne_of_none e h), fun z => z⟩) (fun a ha => by simp at ha) (by simp)
  rw [upd_ne (ne_of_none e hs)]; exact s.sub a u e
end
section
variable {X : Cx} {c : Cfg} {xp : Xp (zx X)} {ML : List Nat} {a b : Expr} {ea eb : E} {pos : Pos}
def gNames : List Nat → TGs
  | [] => gNil
  | i :: is => gCons (gName i) (gNames is)
theorem par_store {Z : Rw} {Sh H : Hp} {F : List Addr} {ms : List (Nat × V)} {Q : L2.St → Hp → Prop} : ∀ (is : List Nat) (l : List T) {vs : List V} {AA : List (List Addr)} {σ σ0 : L2.St} {e : Env}, SR Z Sh (FL AA ++ F) ms σ H e → (∀ p ∈ ms, p.1 ∈ ML) → (∀ i ∈ is, i ∉ ML) → ArgsRel Z σ0 Sh H vs (l.map .inl) AA →
    Out (parM is l e) (fun _ e' => ∀ σ', SR Z Sh F ms σ' H e' → Q σ' H) (fun _ _ _ => False) → gNames is vs σ H Q
  | [], [], vs, AA, σ, σ0, e, s, hm, hML, r, out => by
    rw [List.map_nil] at r
    cases r
    exact ⟨rfl, (show ∀ σ', _ → Q σ' H from out) σ s⟩
  | [], _ :: _, _, _, _, _, _, _, _, _, _, out => out.elim
  | _ :: _, [], _, _, _, _, _, _, _, _, _, out => out.elim
  | i :: is, t :: l, vs0, AA0, σ, σ0, e, s, hm, hML, r, out => by
    rw [List.map_cons] at r
    cases r with
    | @val v _ A vs _ AA r1 rr =>
      have out : Out ((setVar i t e).bind fun _ e => parM is l e) _ _ := out
      obtain ⟨hi, out⟩ := setVar_out out
      have s1 : SR Z Sh (A ++ (FL AA ++ F)) ms σ H e := by
        refine s.perm ?_
        rw [FL]
        refine (List.Perm.append_right F List.perm_append_comm).trans ?_
        rw [List.append_assoc]
      have s2 := s1.store r1 hi fun p hp z => hML i List.mem_cons_self (z ▸ hm p hp)
      exact ⟨v, vs, rfl, par_store is l s2 hm (fun j hj => hML j (List.mem_cons_of_mem _ hj)) rr out⟩
theorem parM_len : ∀ {is : List Nat} {l : List T} {e : Env} {P : Unit → Env → Prop} {Y : Nat → T → Env → Prop}, Out (parM is l e) P Y → is.length = l.length
  | [], [], _, _, _, _ => rfl
  | [], _ :: _, _, _, _, h => h.elim
  | _ :: _, [], _, _, _, h => h.elim
  | i :: is, t :: l, e, P, Y, h => by
    have h : Out ((setVar i t e).bind fun _ e => parM is l e) P Y := h
    obtain ⟨_, h⟩ := setVar_out h
    rw [List.length_cons, List.length_cons, parM_len h]
theorem parM_noex : ∀ {is : List Nat} {l : List T} {e : Env} {P : Unit → Env → Prop} {Y Y' : Nat → T → Env → Prop}, Out (parM is l e) P Y → Out (parM is l e) P Y'
  | [], [], _, _, _, _, h => h
  | [], _ :: _, _, _, _, _, h => h.elim
  | _ :: _, [], _, _, _, _, h => h.elim
  | i :: is, t :: l, e, P, Y, Y', h => by
    have h : Out ((setVar i t e).bind fun _ e => parM is l e) P Y := h
    show Out ((setVar i t e).bind fun _ e => parM is l e) P Y'
    unfold setVar at h ⊢
    by_cases hi : i < e.length
    · rw [if_pos hi] at h ⊢
      exact parM_noex (is := is) (l := l) h
    · rw [if_neg hi] at h; exact h.elim
theorem ss_parT {is : List Nat} {es : Es} {ts vs : List Expr} {kt k2 : Nat} {pt pt2 : Pos} (hc : X.calm = true) (ha : PA X vs (rK (zx X) xp (evk c es))) (hg : PGs X ts (gNames is)) (hn : (assignEach ts X.env).length = is.length) (hst : (assignEach ts X.env).findIdx? (·.1) = none)
    (hML : ∀ i ∈ is, i ∉ ML) (hl : is.length ≤ 1000) (hs : swapsWithSole [.Tuple ts kt pt] (.Tuple vs k2 pt2) pos.line X.env = pure false) (hw : swappedStores [.Tuple ts kt pt] (.Tuple vs k2 pt2) X.env = pure none) :
    PS X (.Assign [.Tuple ts kt pt] (.Tuple vs k2 pt2) pos) (rX (zx X) xp ML (ex c (.par is es))) := psI (ps_asg (pe_tup ha) (pg_tup hc hg hn hst) hs hw rfl) fun D σ H ⟨Sh, F, ms, env, s, hm, out⟩ => by
  have out : Out ((evk c es env).bind fun l e => (parM is l e).bind fun _ e => R.ok Fl.nx e) _ _ := out
  refine ⟨Sh, F, ms, env, s, out.bind.imp (fun l e1 h1 vs H1 Sh1 AA s1 r1 a1 => ?_) fun _ _ _ x => x⟩
  have h2 := h1.bind
  have hlen := parM_len h2
  have hvl : vs.length = is.length := by rw [r1.len.1, List.length_map, hlen]
  refine ⟨by have := sizeLine_eq; omega, fun p hp => ⟨p, vs, rfl, .inl (.inl upd_same), hvl, ?_⟩⟩
  have s2 := s1.junk (o := .tup vs) hp
  have a2 : Aft Sh1 (FL AA ++ F) H1 Sh1 (upd H1 p (.tup vs)) := s1.aft_upd hp
  have r2 := r1.stay a2 (fun x hx => List.mem_append_left _ hx) (fun x hx => (s2.fr.2 x hx).1)
  exact par_store is l s2 hm hML r2 ((parM_noex h2).imp (fun _ e2 h3 σ' s3 => (show StEnd (zx X) D Sh F ms H .nx e2 from h3) σ' _ Sh1 s3 (a1.trans (a2.less fun x hx => List.mem_append_right _ hx))) fun _ _ _ x => x)
def psLen : Ps → Nat
  | .nil => 0
  | .cons _ _ _ ps => psLen ps + 1
theorem putsM_len : ∀ {ps : Ps} {l : List T} {e : Env} {P : Unit → Env → Prop} {Y : Nat → T → Env → Prop}, Out (putsM c ps l e) P Y → (∀ k d e, ¬ Y k d e) → psLen ps = l.length
  | .nil, [], _, _, _, _, _ => rfl
  | .nil, _ :: _, _, _, _, h, _ => h.elim
  | .cons _ _ _ _, [], _, _, _, h, _ => h.elim
  | .cons i k b ps, t :: l, e, P, Y, h, hY => by
    have h : Out (if isOwnX e i = true then (strong (isRd k) (ev c k) e).bind fun z e => (putM1 i (fz z) t e).bind fun _ e => putsM c ps l e else .no) P Y := h
    by_cases hq : isOwnX e i = true
    · rw [if_pos hq] at h
      cases q : strong (isRd k) (ev c k) e with
      | no => rw [q] at h; exact h.elim
      | ex k d e => rw [q] at h; exact (hY _ _ _ h).elim
      | ok z e1 =>
        rw [q] at h
        have h : Out ((putM1 i (fz z) t e1).bind fun _ e => putsM c ps l e) P Y := h
        cases q2 : putM1 i (fz z) t e1 with
        | no => rw [q2] at h; exact h.elim
        | ex k d e => rw [q2] at h; exact (hY _ _ _ h).elim
        | ok _ e2 =>
          rw [q2] at h
          show psLen ps + 1 = l.length + 1
          rw [putsM_len (ps := ps) (l := l) (show Out (putsM c ps l e2) P Y from h) hY]
    · rw [if_neg hq] at h; exact h.elim
theorem ss_putM {ps : Ps} {es : Es} {ts vs : List Expr} {kt k2 : Nat} {pt pt2 : Pos} (hc : X.calm = true) (ha : PA X vs (rA (zx X) (Xp.none (zx X)) (evs c es))) (hg : PGs X ts (rPs (zx X) c ML ps)) (hn : (assignEach ts X.env).length = psLen ps) (hst : (assignEach ts X.env).findIdx? (·.1) = none)
    (hl : psLen ps ≤ 1000) (hs : swapsWithSole [.Tuple ts kt pt] (.Tuple vs k2 pt2) pos.line X.env = pure false) (hw : swappedStores [.Tuple ts kt pt] (.Tuple vs k2 pt2) X.env = pure none) :
    PS X (.Assign [.Tuple ts kt pt] (.Tuple vs k2 pt2) pos) (rX (zx X) (Xp.none (zx X)) ML (ex c (.putM ps es))) := psI (ps_asg (pe_tup ha) (pg_tup hc hg hn hst) hs hw rfl) fun D σ H ⟨Sh, F, ms, env, s, hm, out⟩ => by
  have out : Out ((evs c es env).bind fun l e => (putsM c ps l e).bind fun _ e => R.ok Fl.nx e) _ _ := out
  refine ⟨Sh, F, ms, env, s, out.bind.imp (fun l e1 h1 vs H1 Sh1 s1 r1 a1 => ?_) fun _ _ _ x => x⟩
  have h2 := h1.bind
  have hlen := putsM_len h2 fun _ _ _ z => z
  have hvl : vs.length = psLen ps := by rw [r1.1, hlen]
  refine ⟨by have := sizeLine_eq; omega, fun p hp => ⟨p, vs, rfl, .inl (.inl upd_same), hvl, ?_⟩⟩
  have s2 := s1.junk (o := .tup vs) hp
  have a2 : Aft Sh1 F H1 Sh1 (upd H1 p (.tup vs)) := s1.aft_upd hp
  exact ⟨Sh1, F, ms, e1, l, s2, hm, r1, h2.imp (fun _ e2 h3 H3 Sh3 s3 a3 => (show StEnd (zx X) D Sh F ms H .nx e2 from h3) σ H3 Sh3 s3 ((a1.trans a2).trans a3)) fun _ _ _ x => x⟩
end
end Vi

set_option autoImplicit false
set_option Elab.async false
set_option linter.all false
set_option maxRecDepth 100000
/-! VI: the check that an IR term is a def's text. -/
namespace Vi
open PySem PySem.Spec PyProof.Rows L2
/-- what the check sees of a def and its program -/
structure CC where
  N : List Str
  sc : Scope
  fn : Str → Bool
  fs : List Str
  gs : List (Option Str)
  ds : List (Option Str)
  ML : List Nat
def CC.kd (cc : CC) (x : Str) : Option NameKind := cc.sc.names.lookup x
def glC (cc : CC) (x : Str) : Bool := decide (cc.kd x = some .globalImplicit) && !(x == ("__debug__" : Str)) && !decide (x = ("__name__" : Str))
def visC (cc : CC) (x : Str) : Bool := (match cc.kd x with
  | some .local => true
  | some .cell => true
  | some .free => true
  | _ => false) && !(x == ("__debug__" : Str)) && !(x == ("__classdict__" : Str))
def locC (cc : CC) (x : Str) : Bool := match cc.kd x with
  | some .local => true
  | some .cell => cc.fn x
  | _ => false
def varC (cc : CC) (i : Nat) (x : Str) : Bool := decide (cc.N[i]? = some x) && visC cc x
def varE (cc : CC) (i : Nat) : Expr → Bool
  | .Name x _ => varC cc i x
  | _ => false
def cstC : T → Const → Bool
  | .int i, .int j => decide (i = j)
  | .str s, .str x => decide (s.toArray = x.cps) && decide (s.length ≤ 1000000) && s.all fun c => decide (c < 1114112)
  | .non, .none => true
  | .bl b, .bool d => b == d
  | _, _ => false
def opC : Bop → Operator → Bool
  | .add, .Add => true
  | .sub, .Sub => true
  | .mul, .Mult => true
  | .fdiv, .FloorDiv => true
  | .mod, .Mod => true
  | .pow, .Pow => true
  | _, _ => false
def copC : Cop → CmpOp → Bool
  | .eq, .Eq => true
  | .ne, .NotEq => true
  | .lt, .Lt => true
  | .le, .LtE => true
  | .gt, .Gt => true
  | .ge, .GtE => true
  | .inn, .In => true
  | .nin, .NotIn => true
  | _, _ => false
def notSet : Expr → Bool
  | .Set _ _ _ => false
  | _ => true
def notSlice : Expr → Bool
  | .Slice _ _ _ _ => false
  | _ => true
def b1N : B1 → Option Str
  | .len => some "len"
  | .int => some "int"
  | .abs => some "abs"
  | .list => some "list"
  | .tuple => some "tuple"
  | .all => some "all"
  | .any => some "any"
  | .sum => some "sum"
  | .min => some "min"
  | .max => some "max"
  | .bool => some "bool"
  | .str => some "str"
  | .sorted => some "sorted"
  | _ => none
def b2N : B2 → Str
  | .min => "min"
  | .max => "max"
def mtN : Mt → Option Str
  | .join => some "join"
  | .index => some "index"
  | .split => some "split"
def tyN : Ty → Str
  | .int => "int"
  | .bool => "bool"
  | .str => "str"
  | .tuple => "tuple"
  | .list => "list"
/-- the scope of a block -/
def relabelS (scope sc : Scope) : Scope := { scope with names := scope.names.map fun (n, k) => if k == NameKind.free && sc.kind == .function && sc.names.lookup n == some .cell then (n, NameKind.cell) else (n, k) }
def CC.blk (cc : CC) (scope : Scope) : CC := { cc with sc := relabelS scope cc.sc, fn := fun x => scope.names.lookup x == some .cell, ML := [] }
mutual
def chkT (cc : CC) : Tg → Expr → Bool
  | .nm i => fun a => match a with
    | .Name x _ => decide (cc.N[i]? = some x) && locC cc x && !cc.ML.contains i
    | _ => false
  | .tp ts => fun a => match a with
    | .Tuple xs _ _ => chkTs cc ts xs
    | _ => false
def chkTs (cc : CC) : Tgs → List Expr → Bool
  | .nil => fun xs => match xs with
    | [] => true
    | _ => false
  | .cons t ts => fun xs => match xs with
    | x :: r => chkT cc t x && chkTs cc ts r && notStar x
    | _ => false
end
/-- enumerate has a tuple of names as its target -/
def itT : Vi.It → Expr → Bool
  | .enu _, .Tuple _ _ _ => true
  | .enu _, _ => false
  | _, _ => true
def neEs : Es → Bool
  | .nil => false
  | _ => true
/-- the names of a block's own slots -/
def ownOf (N : List Str) (own : List Nat) : List (Str × Nat) := own.filterMap fun i => (N[i]?).map fun x => (x, i)
mutual
def chkE (cc : CC) : E → Expr → Bool
  | .var i => varE cc i
  | .rd i => varE cc i
  | .cst t => fun a => match a with
    | .Constant k _ _ => cstC t k
    | _ => false
  | .glo g => fun a => match a with
    | .Name x _ => decide (cc.gs[g]? = some (some x)) && glC cc x
    | _ => false
  | .tup es => fun a => match a with
    | .Tuple xs _ _ => chkEs cc es xs && decide (esLen es ≤ 1000)
    | _ => false
  | .lst es => fun a => match a with
    | .List xs _ => chkEs cc es xs && decide (esLen es ≤ 1000)
    | _ => false
  | .dct es => fun a => match a with
    | .Dict ks vs _ => chkP cc es ks vs && decide (ks.length ≤ 15)
    | _ => false
  | .bin op x y => fun a => match a with
    | .BinOp u o v _ => opC op o && chkE cc x u && chkE cc y v
    | _ => false
  | .neg x => fun a => match a with
    | .UnaryOp .USub u _ => chkE cc x u
    | _ => false
  | .cmp op x y => fun a => match a with
    | .Compare u [o] [v] _ => copC op o && chkE cc x u && chkE cc y v && notSet v
    | _ => false
  | .chn o1 o2 x y z => fun a => match a with
    | .Compare u [p1, p2] [v, w] _ => copC o1 p1 && copC o2 p2 && chkE cc x u && chkE cc y v && chkE cc z w && notSet w
    | _ => false
  | .isN x => fun a => match a with
    | .Compare u [.Is] [.Constant .none _ _] _ => chkE cc x u
    | _ => false
  | .notN x => fun a => match a with
    | .Compare u [.IsNot] [.Constant .none _ _] _ => chkE cc x u
    | _ => false
  | .and es => fun a => match a with
    | .BoolOp .And xs _ => chkB cc es xs && neEs es
    | _ => false
  | .or es => fun a => match a with
    | .BoolOp .Or xs _ => chkB cc es xs && neEs es
    | _ => false
  | .not x => fun a => match a with
    | .UnaryOp .Not u _ => chkE cc x u
    | _ => false
  | .ite q x y => fun a => match a with
    | .IfExp u v w _ => chkE cc q u && chkE cc x v && chkE cc y w
    | _ => false
  | .idx x y => fun a => match a with
    | .Subscript u v _ => chkE cc x u && chkE cc y v && notSlice v
    | _ => false
  | .sli x lo hi => fun a => match a with
    | .Subscript u (.Slice l h none _) _ => chkE cc x u && chkO cc lo l && chkO cc hi h
    | _ => false
  | .call f as => fun a => match a with
    | .Call (.Name x _) xs [] _ => decide (cc.fs[f]? = some x) && glC cc x && chkA cc as xs
    | _ => false
  | .b1 f x => fun a => match a with
    | .Call (.Name n _) [u] [] _ => decide (b1N f = some n) && glC cc n && chkE cc x u && notStar u
    | _ => false
  | .b2 f x y => fun a => match a with
    | .Call (.Name n _) [u, v] [] _ => decide (b2N f = n) && glC cc n && chkE cc x u && chkE cc y v && notStar u && notStar v
    | _ => false
  | .mt f x y => fun a => match a with
    | .Call (.Attribute u n apos) [v] [] pos => decide (mtN f = some n) && chkE cc x u && chkE cc y v && notSuper u && notStar v && (apos.endLine == pos.line)
    | _ => false
  | .get x y z => fun a => match a with
    | .Call (.Attribute u n apos) [v, w] [] pos => decide (n = ("get" : Str)) && chkE cc x u && chkE cc y v && chkE cc z w && notSuper u && notStar v && notStar w && (apos.endLine == pos.line)
    | _ => false
  | .isi ty x => fun a => match a with
    | .Call (.Name n _) [u, .Name m _] [] _ => decide (n = ("isinstance" : Str)) && decide (m = tyN ty) && glC cc n && glC cc m && chkE cc x u && notStar u
    | _ => false
  | .lc elt tg it ifs own => fun a => match a with
    | .ListComp e [⟨t, i, fs, 0⟩] scope _ => (chkI cc it i && itT it t) && notSet i && blkC cc.N cc.sc scope (ownOf cc.N own) && decide ((ownOf cc.N own).map (·.2) = own) && chkT (cc.blk scope) tg t && chkF (cc.blk scope) ifs fs && chkE (cc.blk scope) elt e
    | _ => false
  | .lc2 elt tg it ifs tg2 it2 ifs2 own own2 => fun a => match a with
    | .ListComp e [⟨t, i, fs, 0⟩, ⟨t2, i2, fs2, 0⟩] scope _ => (chkI cc it i && itT it t) && notSet i && notSet i2 && blkC cc.N cc.sc scope (ownOf cc.N own) && decide ((ownOf cc.N own).map (·.2) = own) && own2.all own.contains && chkT (cc.blk scope) tg t && chkF (cc.blk scope) ifs fs && (chkI (cc.blk scope) it2 i2 && itT it2 t2) && chkT (cc.blk scope) tg2 t2 && chkF (cc.blk scope) ifs2 fs2 && chkE (cc.blk scope) elt e
    | _ => false
  | .gdct g => fun a => match a with
    | .Call (.Name x _) [.Name n _] [] _ => decide (x = ("dict" : Str)) && glC cc x && decide (cc.ds[g]? = some (some n)) && glC cc n
    | _ => false
  | _ => fun _ => false
def chkEs (cc : CC) : Es → List Expr → Bool
  | .nil => fun xs => match xs with
    | [] => true
    | _ => false
  | .cons e es => fun xs => match xs with
    | x :: r => chkE cc e x && chkEs cc es r && notStar x
    | _ => false
/-- operands of and, or -/
def chkB (cc : CC) : Es → List Expr → Bool
  | .nil => fun xs => match xs with
    | [] => true
    | _ => false
  | .cons e es => fun xs => match xs with
    | x :: r => chkE cc e x && chkB cc es r
    | _ => false
/-- pairs of a display: a key's turn -/
def chkP (cc : CC) : Es → List (Option Expr) → List Expr → Bool
  | .nil => fun ks vs => match ks, vs with
    | [], [] => true
    | _, _ => false
  | .cons k es => fun ks vs => match ks with
    | some x :: ks => chkE cc k x && chkQ cc es ks vs
    | _ => false
/-- a value's turn -/
def chkQ (cc : CC) : Es → List (Option Expr) → List Expr → Bool
  | .nil => fun _ _ => false
  | .cons v es => fun ks vs => match vs with
    | y :: vs => chkE cc v y && chkP cc es ks vs
    | _ => false
/-- tests of a clause: none or one -/
def chkF (cc : CC) : Es → List Expr → Bool
  | .nil => fun xs => match xs with
    | [] => true
    | _ => false
  | .cons e es => fun xs => match es, xs with
    | .nil, [x] => chkE cc e x
    | _, _ => false
def chkO (cc : CC) : Eo → Option Expr → Bool
  | .non => fun a => match a with
    | none => true
    | _ => false
  | .som e => fun a => match a with
    | some x => chkE cc e x
    | _ => false
def chkA (cc : CC) : As → List Expr → Bool
  | .nil => fun xs => match xs with
    | [] => true
    | _ => false
  | .val e as => fun xs => match xs with
    | x :: r => chkE cc e x && chkA cc as r && notStar x
    | _ => false
  | .mut i as => fun xs => match xs with
    | x :: r => varE cc i x && chkA cc as r && notStar x
    | _ => false
  | .tmp e as => fun xs => match xs with
    | x :: r => chkE cc e x && chkA cc as r && notStar x
    | _ => false
def chkI (cc : CC) : Vi.It → Expr → Bool
  | .of e => chkE cc e
  | .rng e => fun a => match a with
    | .Call (.Name n _) [u] [] _ => decide (n = ("range" : Str)) && glC cc n && chkE cc e u && notStar u
    | _ => false
  | .rng2 e f => fun a => match a with
    | .Call (.Name n _) [u, v] [] _ => decide (n = ("range" : Str)) && glC cc n && chkE cc e u && chkE cc f v && notStar u && notStar v
    | _ => false
  | .enu e => fun a => match a with
    | .Call (.Name n _) [u] [] _ => decide (n = ("enumerate" : Str)) && glC cc n && chkE cc e u && notStar u
    | _ => false
  | _ => fun _ => false
end
end Vi

set_option autoImplicit false
set_option Elab.async false
set_option linter.all false
set_option maxRecDepth 100000
/-! VI: the check is sound, expressions. -/
namespace Vi
open PySem PySem.Spec PyProof.Rows L2
/-- the built-in names that the check knows, and what they are -/
def bltF : List (Str × String) := [("len", "len"), ("abs", "abs"), ("all", "all"), ("any", "any"), ("sum", "sum"), ("min", "min"), ("max", "max"), ("isinstance", "isinstance"), ("sorted", "sorted")]
def bltT : List (Str × String) := [("int", "int"), ("list", "list"), ("tuple", "tuple"), ("bool", "bool"), ("str", "str"), ("dict", "dict"), ("enumerate", "enumerate")]
theorem boot_F : ∀ p ∈ bltF, bootBuiltins p.1 = some (.builtin p.2) ∧ p.1 ≠ Str.ofString "__name__" ∧ (p.1 == Str.ofString "__debug__") = false := by decide +kernel
theorem boot_T : ∀ p ∈ bltT, bootBuiltins p.1 = some (.type p.2) ∧ p.1 ≠ Str.ofString "__name__" ∧ (p.1 == Str.ofString "__debug__") = false := by decide +kernel
/-- no exception leaves a def -/
def CXn : CXT := fun _ _ _ _ _ _ => False
/-- a module's dict with ints and texts as keys -/
def KDk (P : Program) (w : World) (K : PySem.W.Frag) (d : Addr) (kvs : List (Key × V)) : Prop := (d == sysModules) = false ∧ kvs.length ≤ sizeLine ∧ ∀ h : Heap, K.In h → ∃ vs, KV kvs vs ∧ h.DictOf (mixKind P w) d vs
/-- a program's defs and constants, as this context has them -/
structure GoodC (cc : CC) (X : Cx) (c : Cfg) : Prop where
  N : X.N = cc.N
  nd : cc.N.Nodup
  sc : X.env.scope = cc.sc
  calm : X.calm = true
  units : X.A.units + 65 < cLine
  gu : X.A.guards = some []
  fn : ∀ x, cc.fn x = true → X.fn x = true
  bf : ∀ p ∈ bltF, X.mg p.1 = none
  bt : ∀ p ∈ bltT, X.mg p.1 = none
  rng : X.mg "range" = none
  call : ∀ (f : Nat) (x : Str), cc.fs[f]? = some x → ∃ k fa fd ps np, FnG X.prog X.w X.K X.mg X.base CXn k fa fd ps (spV (zx X) np (c.call f)) ∧ (∀ ts, c.call f ts ≠ .no → ts.length = np) ∧ Room k X.A ∧ X.mg x = some (.ref fa) ∧ PySem.W.keepIn X.K (.ref fa) = true ∧ Binds X.K fd ps []
  glo : ∀ (g : Nat) (x : Str), cc.gs[g]? = some (some x) → ∃ t v u, c.glos[g]? = some t ∧ X.mg x = some u ∧ RelV v u ∧ ∀ Sh, Rp (zx X) Sh v t
  gdc : ∀ (g : Nat) (x : Str), cc.ds[g]? = some (some x) → ∃ o l d kvs, c.glos[g]? = some (.dic o l) ∧ X.mg x = some (.ref d) ∧ KDk X.prog X.w X.K d kvs ∧ kvs.map (fun p => keyT p.1) = l.map (·.1) ∧ ∀ Sh, RpL (zx X) Sh (kvs.map (·.2)) (l.map (·.2))
section
variable {cc : CC} {X : Cx} {c : Cfg}
theorem GoodC.blk (G : GoodC cc X c) (s : Shared) (H : Hp) (scope : Scope) (C : Addr) (cl : List (Str × Addr)) (fp : List Addr) : GoodC (cc.blk scope) (X.blk s H scope (compEnvC scope cl C X.env) fp) c where
  N := G.N
  nd := G.nd
  sc := by
    show relabel scope X.env = relabelS scope cc.sc
    rw [← G.sc]
    rfl
  calm := G.calm
  units := G.units
  gu := G.gu
  fn := fun x h => h
  bf := G.bf
  bt := G.bt
  rng := G.rng
  call := G.call
  glo := G.glo
  gdc := G.gdc
theorem GoodC.gl (G : GoodC cc X c) {x : Str} (h : glC cc x = true) : Gl X x ∧ (x == ("__debug__" : Str)) = false ∧ x ≠ Str.ofString "__name__" := by
  unfold glC at h
  simp only [Bool.and_eq_true, decide_eq_true_eq, Bool.not_eq_true', decide_eq_false_iff_not] at h
  obtain ⟨⟨h1, h2⟩, h3⟩ := h
  refine ⟨?_, h2, h3⟩
  show X.env.scope.names.lookup x = _
  rw [G.sc]
  exact h1
theorem GoodC.vis (G : GoodC cc X c) {x : Str} (h : visC cc x = true) : Vis X.env.scope x ∧ (x == ("__debug__" : Str)) = false ∧ (x == ("__classdict__" : Str)) = false := by
  unfold visC at h
  simp only [Bool.and_eq_true, Bool.not_eq_true'] at h
  obtain ⟨⟨h1, h2⟩, h3⟩ := h
  refine ⟨?_, h2, h3⟩
  unfold Vis
  rw [G.sc]
  unfold CC.kd at h1
  split at h1
  · rename_i e; exact .inl e
  · rename_i e; exact .inr (.inl e)
  · rename_i e; exact .inr (.inr e)
  · cases h1
theorem GoodC.var (G : GoodC cc X c) {i : Nat} {a : Expr} (h : varE cc i a = true) : PE X a (tVar i) ∧ ∃ x p, a = .Name x p := by
  cases a with
  | Name x p =>
    have h : varC cc i x = true := h
    unfold varC at h
    rw [Bool.and_eq_true, decide_eq_true_eq] at h
    obtain ⟨h1, h2⟩ := h
    obtain ⟨h3, h4, h5⟩ := G.vis h2
    exact ⟨pe_var (by rw [G.N]; exact h1) h3 h4 h5, x, p, rfl⟩
  | _ => cases h
theorem GoodC.bfn (G : GoodC cc X c) {x : Str} {id : String} (hm : (x, id) ∈ bltF) (h : glC cc x = true) : Bf X x id :=
  let ⟨b1, b2, b3⟩ := boot_F _ hm
  ⟨(G.gl h).1, G.bf _ hm, b1, b2, b3⟩
theorem GoodC.bty (G : GoodC cc X c) {x : Str} {T : String} (hm : (x, T) ∈ bltT) (h : glC cc x = true) : Bt X x T :=
  let ⟨b1, b2, b3⟩ := boot_T _ hm
  ⟨(G.gl h).1, G.bt _ hm, b1, b2, b3⟩
theorem GoodC.loc (G : GoodC cc X c) {x : Str} (h : locC cc x = true) : L2.Loc X.env.scope x ∧ (X.fn x = true ∨ X.env.scope.names.lookup x = some .local) := by
  unfold locC CC.kd at h
  unfold L2.Loc
  rw [G.sc]
  split at h
  · rename_i e; exact ⟨.inl e, .inr e⟩
  · rename_i e; exact ⟨.inr e, .inl (G.fn x h)⟩
  · cases h
/-! ### targets -/
theorem assignEach_cons {a : Expr} {r : List Expr} {env : PySem.Env} (h : notStar a = true) : assignEach (a :: r) env = (false, assign a env) :: assignEach r env := by
  cases a <;> first | rfl | cases h
mutual
theorem ok_T : ∀ (t : Tg) (cc : CC) (X : Cx) (a : Expr), GoodC cc X c → chkT cc t a = true → PG X a (rTg (zx X) cc.ML t)
  | .nm i, cc, X, a, G, h => by
    unfold chkT at h
    split at h
    · rename_i x p
      simp only [Bool.and_eq_true, decide_eq_true_eq, Bool.not_eq_true'] at h
      obtain ⟨⟨h1, h2⟩, h3⟩ := h
      obtain ⟨q1, q2⟩ := G.loc h2
      exact tg_nm (by rw [G.N]; exact G.nd) (by rw [G.N]; exact h1) q1 q2 (by simpa using h3)
    · cases h
  | .tp ts, cc, X, a, G, h => by
    unfold chkT at h
    split at h
    · rename_i xs k p
      obtain ⟨q1, q2, q3⟩ := ok_Ts ts cc X xs G h
      exact tg_tp G.calm q1 q2 q3
    · cases h
theorem ok_Ts : ∀ (ts : Tgs) (cc : CC) (X : Cx) (xs : List Expr), GoodC cc X c → chkTs cc ts xs = true → PGs X xs (rTgs (zx X) cc.ML ts) ∧ (assignEach xs X.env).length = tgsLen ts ∧ (assignEach xs X.env).findIdx? (·.1) = none
  | .nil, cc, X, xs, G, h => by
    unfold chkTs at h
    split at h
    · exact ⟨tgs_nil, rfl, rfl⟩
    · cases h
  | .cons t ts, cc, X, xs, G, h => by
    unfold chkTs at h
    split at h
    · rename_i x r
      simp only [Bool.and_eq_true] at h
      obtain ⟨⟨h1, h2⟩, h3⟩ := h
      obtain ⟨q1, q2, q3⟩ := ok_Ts ts cc X r G h2
      have e := assignEach_cons (r := r) (env := X.env) h3
      refine ⟨tgs_cons (ok_T t cc X x G h1) q1 (by rw [e]; rfl), by rw [e, List.length_cons, q2]; rfl, ?_⟩
      rw [e, List.findIdx?_cons]
      simp [q3]
    · cases h
end
/-! ### small parts -/
theorem ok_cst {t : T} {k : Const} {j : Nat} {p : Pos} (h : cstC t k = true) : SE X c (Xp.none (zx X)) (.cst t) (.Constant k j p) := by
  unfold cstC at h
  split at h
  · rw [decide_eq_true_eq] at h
    subst h
    exact se_cst pe_int (fun _ => .int _) (fun _ => rfl)
  · rename_i s x
    simp only [Bool.and_eq_true, decide_eq_true_eq, List.all_eq_true] at h
    obtain ⟨⟨h1, h2⟩, h3⟩ := h
    have e : x = sOf s := by cases x; simp only [sOf]; simp only at h1; rw [h1]
    rw [e]
    exact se_cst pe_str (fun _ => .str s ⟨by show s.length ≤ 16777216; omega, fun ch hc => by simpa using h3 ch hc⟩) (fun _ => rfl)
  · exact se_cst pe_non (fun _ => .non) (fun _ => rfl)
  · rename_i b d
    have e : b = d := by simpa using h
    subst e
    exact se_cst pe_bl (fun _ => .bl _) (fun _ => rfl)
  · cases h
theorem noSet {b : Expr} (h : notSet b = true) : ∀ es k p, b ≠ .Set es k p := fun es k p e => by subst e; cases h
theorem noFold {i : Expr} (h : notSet i = true) (env : PySem.Env) (x : Value) : foldedSetIterable i env x = pure x := by
  cases i <;> first | rfl | cases h
theorem plain_ix {b : Expr} (h : notSlice b = true) : PlainIx b := fun o i => by
  cases b <;> first | rfl | cases h
theorem ok_bin {op : Bop} {o : Operator} {x y : E} {u v : Expr} {p : Pos} (h : opC op o = true) (hx : SE X c (Xp.none (zx X)) x u) (hy : SE X c (Xp.none (zx X)) y v) : SE X c (Xp.none (zx X)) (.bin op x y) (.BinOp u o v p) := by
  unfold opC at h
  split at h
  · exact se_bin op_addAll ok_add hx hy
  · exact se_bin op_sub ok_sub hx hy
  · exact se_bin op_mulAll ok_mul hx hy
  · exact se_bin op_fdiv ok_fdiv hx hy
  · exact se_bin op_mod ok_mod hx hy
  · exact se_bin op_pow ok_pow hx hy
  · cases h
end
end Vi

set_option autoImplicit false
set_option Elab.async false
set_option linter.all false
set_option maxRecDepth 100000
/-! VI: the check is sound, expressions. -/
namespace Vi
open PySem PySem.Spec PyProof.Rows L2
section
variable {c : Cfg} {cc : CC} {X : Cx}
/-- comparisons: the operator's rule -/
theorem ok_cop {op : Cop} {o : CmpOp} (G : GoodC cc X c) (h : copC op o = true) : ∃ r : R2, OpR X (compareOp o) r ∧ Ok2 (zx X) r (fun x y => (cmpT op x y).map .bl) := by
  have hu := G.units
  unfold copC at h
  split at h
  · exact ⟨_, op_eqD (by omega), ok_eq⟩
  · exact ⟨_, op_neD (by omega), ok_ne⟩
  · exact ⟨_, op_ltA, ok_lt⟩
  · exact ⟨_, op_leA, ok_le⟩
  · exact ⟨_, op_gtA, ok_gt⟩
  · exact ⟨_, op_geA, ok_ge⟩
  · exact ⟨_, op_inZ hu, ok_inn⟩
  · exact ⟨_, op_notInZ hu, ok_nin⟩
  · cases h
theorem ok_b1 {f : B1} {n : Str} {x : E} {u : Expr} {p pos : Pos} (G : GoodC cc X c) (hn : b1N f = some n) (hg : glC cc n = true) (hx : SE X c (Xp.none (zx X)) x u) (hs : notStar u = true) : SE X c (Xp.none (zx X)) (.b1 f x) (.Call (.Name n p) [u] [] pos) := by
  have hc := G.calm
  unfold b1N at hn
  split at hn
  · cases hn; exact se_call1 (bf_call (G.bfn (id := "len") (by decide) hg) hs cr_len) ok_len hx hs
  · cases hn; exact se_call1 (bt_call (G.bty (T := "int") (by decide) hg) hs cr_int) ok_int hx hs
  · cases hn; exact se_call1 (bf_call (G.bfn (id := "abs") (by decide) hg) hs cr_abs) ok_abs hx hs
  · cases hn; exact se_call1 (bt_call (G.bty (T := "list") (by decide) hg) hs (cr_list hc)) ok_list hx hs
  · cases hn; exact se_call1 (bt_call (G.bty (T := "tuple") (by decide) hg) hs cr_tuple) ok_tuple hx hs
  · cases hn; exact se_call1 (bf_call (G.bfn (id := "all") (by decide) hg) hs (cr_allZ hc)) ok_all hx hs
  · cases hn; exact se_call1 (bf_call (G.bfn (id := "any") (by decide) hg) hs (cr_anyZ hc)) ok_any hx hs
  · cases hn; exact se_call1 (bf_call (G.bfn (id := "sum") (by decide) hg) hs (cr_sumZ hc)) ok_sum hx hs
  · cases hn; exact se_call1 (bf_call (G.bfn (id := "min") (by decide) hg) hs (cr_minZ hc)) ok_min hx hs
  · cases hn; exact se_call1 (bf_call (G.bfn (id := "max") (by decide) hg) hs (cr_maxZ hc)) ok_max hx hs
  · cases hn; exact se_call1 (bt_call (G.bty (T := "bool") (by decide) hg) hs cr_bool) ok_bool hx hs
  · cases hn; exact se_call1 (bt_call (G.bty (T := "str") (by decide) hg) hs (cr_str G.gu G.units)) ok_str hx hs
  · cases hn; exact se_call1 (bf_call (G.bfn (id := "sorted") (by decide) hg) hs cr_srt) ok_srt hx hs
  · cases hn
theorem ok_b2 {f : B2} {n : Str} {x y : E} {u v : Expr} {p pos : Pos} (G : GoodC cc X c) (hn : b2N f = n) (hg : glC cc n = true) (hx : SE X c (Xp.none (zx X)) x u) (hy : SE X c (Xp.none (zx X)) y v) (hs : notStar u = true) (hs2 : notStar v = true) :
    SE X c (Xp.none (zx X)) (.b2 f x y) (.Call (.Name n p) [u, v] [] pos) := by
  have hc := G.calm
  subst hn
  cases f with
  | min => exact se_call2 (bf_call2 (G.bfn (id := "min") (by decide) hg) hs hs2 (cr_min2 hc)) ok_min2 hx hy hs hs2
  | max => exact se_call2 (bf_call2 (G.bfn (id := "max") (by decide) hg) hs hs2 (cr_max2 hc)) ok_max2 hx hy hs hs2
theorem ok_mt {f : Mt} {n : Str} {x y : E} {u v : Expr} {apos pos : Pos} (hn : mtN f = some n) (hx : SE X c (Xp.none (zx X)) x u) (hy : SE X c (Xp.none (zx X)) y v) (h1 : notSuper u = true) (h2 : notStar v = true) (h3 : (apos.endLine == pos.line) = true) :
    SE X c (Xp.none (zx X)) (.mt f x y) (.Call (.Attribute u n apos) [v] [] pos) := by
  unfold mtN at hn
  split at hn
  · cases hn; exact se_mt mo_join ok_join hx hy h1 h2 h3
  · cases hn; exact se_mt mo_index ok_index hx hy h1 h2 h3
  · cases hn; exact se_mt mo_split ok_split hx hy h1 h2 h3
theorem hexN {Z : Rw} : ∀ Sh F ms H k d e, ¬ (Xp.none Z).p Sh F ms H k d e := fun _ _ _ _ _ _ _ h => h
theorem nodbg {x : Str} (h : (x == ("__debug__" : Str)) = false) : (x == Str.ofString "__debug__") = false := h
theorem m2_of {o e f : Expr} {m : Str} {apos cpos : Pos} (h1 : notSuper o = true) (h2 : notStar e = true) (h3 : notStar f = true) (h4 : (apos.endLine == cpos.line) = true) : M2 X o m apos e f cpos := by
  have e2 : starEach [f] X.env = [(false, eval f X.env)] := star_of h3
  have e1 : starEach [e, f] X.env = [(false, eval e X.env), (false, eval f X.env)] := (star_of h2).trans (by rw [e2])
  refine ⟨base_of h1, ?_, h4, ?_⟩
  · rw [e1]; rfl
  · rw [e1]; rfl
/-- a module's dict is copied -/
theorem cr_dictK : CallR X (.type "dict") (fun xs H Q => ∃ (d : Addr) (kvs : List (Key × V)), xs = [.ref d] ∧ KDk X.prog X.w X.K d kvs ∧ ∀ p, H p = none → Q (.ref p) (upd H p (.dK kvs))) := by
  intro pins s σ H xs us Q I r q
  obtain ⟨a, kvs, ex, ⟨lo, z, hd⟩, q⟩ := q
  subst ex
  obtain ⟨u, eu, rx⟩ := vals1 r
  subst eu
  cases rx
  obtain ⟨vs, rel, dd⟩ := hd s.heap I.kIn
  refine kt_call_dict lo dd (by rw [← rel.length]; exact z) fun h' d' hs => ?_
  have hm : (s.heap.objs.size == sysModules) = false := beq_eq_false_iff_ne.mpr (Nat.ne_of_gt I.big)
  exact ⟨.ref s.heap.objs.size, upd H s.heap.objs.size (.dK kvs), I.laid (t' := s.toks) (fun b u e => (hs.2 b (Nat.ne_of_lt (Heap.lt_size e))).trans (Heap.get?_push_of_some _ e)) (Nat.le_refl _)
    (show ObjOk X.prog X.w _ _ _ (.dK kvs) from ⟨z, hm, vs, rel, d'⟩), rfl, q _ (I.hok.fresh (Nat.le_refl _))⟩
theorem ok_gdct {g : Nat} {x n : Str} {p q pos : Pos} (G : GoodC cc X c) (hx : x = ("dict" : Str)) (hg : glC cc x = true) (hn : cc.ds[g]? = some (some n)) (hgn : glC cc n = true) : SE X c (Xp.none (zx X)) (.gdct g) (.Call (.Name x p) [.Name n q] [] pos) := by
  subst hx
  obtain ⟨o, l, d, kvs, h1, h2, h3, h4, h5⟩ := G.gdc g n hn
  refine se_gdct h1 (peI (bt_call (G.bty (T := "dict") (by decide) hg) rfl cr_dictK (pa_cons (pe_glob (G.gl hgn).1 h2 (v := .ref d) rfl (G.gl hgn).2.1) pa_nil rfl)) fun σ H Q h => ⟨d, kvs, rfl, h3, h⟩) h4 h5
theorem ok_isi {ty : Ty} {n m : Str} {e : E} {u : Expr} {p q pos : Pos} (G : GoodC cc X c) (hn : n = ("isinstance" : Str)) (hm : m = tyN ty) (h1 : glC cc n = true) (h2 : glC cc m = true) (he : SE X c (Xp.none (zx X)) e u) (hs : notStar u = true) :
    SE X c (Xp.none (zx X)) (.isi ty e) (.Call (.Name n p) [u, .Name m q] [] pos) := by
  subst hn hm
  refine se_isi (G.bfn (id := "isinstance") (by decide) h1) ?_ he hs
  cases ty
  · exact G.bty (T := "int") (by decide) h2
  · exact G.bty (T := "bool") (by decide) h2
  · exact G.bty (T := "str") (by decide) h2
  · exact G.bty (T := "tuple") (by decide) h2
  · exact G.bty (T := "list") (by decide) h2
theorem blk_own {N : List Str} {sc scope : Scope} {own : List Nat} (h : blkC N sc scope (ownOf N own) = true) (h2 : (ownOf N own).map (·.2) = own) : ∃ own' : List (Str × Nat), BlkOk N sc scope own' ∧ own'.map (·.2) = own := ⟨_, blkOk_by h, h2⟩
end
theorem any_of {X : Cx} {r : List Expr} {pos : Pos} (h : ∀ y q (pos : Pos), r = y :: q → starEach (y :: q) X.env = (false, eval y X.env) :: starEach q X.env ∧ ((backTo pos (starEach q X.env)).any (·.1)) = false) : ((backTo pos (starEach r X.env)).any (·.1)) = false := by
  cases r with
  | nil => rfl
  | cons y q =>
    obtain ⟨h1, h2⟩ := h y q pos rfl
    rw [h1]
    show (false || (backTo pos (starEach q X.env)).any (·.1)) = false
    rw [h2]; rfl
mutual
theorem ok_E {c : Cfg} : ∀ (e : E) (cc : CC) (X : Cx) (a : Expr), GoodC cc X c → chkE cc e a = true → SE X c (Xp.none (zx X)) e a
  | .var i, cc, X, a, G, h => by
    unfold chkE at h
    obtain ⟨q, x, p, rfl⟩ := G.var h
    exact se_var q (fun _ => rfl)
  | .rd i, cc, X, a, G, h => by
    unfold chkE at h
    obtain ⟨q, x, p, rfl⟩ := G.var h
    exact se_rd q (fun _ => rfl)
  | .cst t, cc, X, a, G, h => by
    unfold chkE at h
    split at h
    · exact ok_cst h
    · cases h
  | .glo g, cc, X, a, G, h => by
    unfold chkE at h
    split at h
    · rename_i x p
      rw [Bool.and_eq_true, decide_eq_true_eq] at h
      obtain ⟨t, v, u, h1, h2, h3, h4⟩ := G.glo g x h.1
      obtain ⟨g1, g2, _⟩ := G.gl h.2
      exact se_glo h1 (pe_glob g1 h2 h3 g2) h4 (fun _ => rfl)
    · cases h
  | .tup es, cc, X, a, G, h => by
    unfold chkE at h
    split at h
    · rw [Bool.and_eq_true, decide_eq_true_eq] at h
      exact se_tup (ok_Es es cc X _ G h.1) h.2
    · cases h
  | .lst es, cc, X, a, G, h => by
    unfold chkE at h
    split at h
    · rw [Bool.and_eq_true, decide_eq_true_eq] at h
      exact se_lst (ok_Es es cc X _ G h.1) h.2
    · cases h
  | .dct es, cc, X, a, G, h => by
    unfold chkE at h
    split at h
    · rename_i ks vs p
      rw [Bool.and_eq_true, decide_eq_true_eq] at h
      obtain ⟨trs, r⟩ := ok_P es cc X p ks vs G h.1
      cases ks with
      | nil =>
        obtain ⟨_, f2, _⟩ := r.facts
        cases vs with
        | nil => cases r; exact se_dct0
        | cons _ _ => simp at f2
      | cons k ks => exact se_dct r (by simp) h.2
    · cases h
  | .bin op x y, cc, X, a, G, h => by
    unfold chkE at h
    split at h
    · simp only [Bool.and_eq_true] at h
      exact ok_bin h.1.1 (ok_E x cc X _ G h.1.2) (ok_E y cc X _ G h.2)
    · cases h
  | .neg x, cc, X, a, G, h => by
    unfold chkE at h
    split at h
    · exact se_neg (ok_E x cc X _ G h)
    · cases h
  | .cmp op x y, cc, X, a, G, h => by
    unfold chkE at h
    split at h
    · simp only [Bool.and_eq_true] at h
      obtain ⟨r, h1, h2⟩ := ok_cop G h.1.1.1
      exact se_cmp h1 h2 (ok_E x cc X _ G h.1.1.2) (ok_E y cc X _ G h.1.2) (nomarks _ _ (noSet h.2))
    · cases h
  | .chn o1 o2 x y z, cc, X, a, G, h => by
    unfold chkE at h
    split at h
    · simp only [Bool.and_eq_true] at h
      obtain ⟨⟨⟨⟨⟨h1, h2⟩, h3⟩, h4⟩, h5⟩, h6⟩ := h
      obtain ⟨r, q1, q2⟩ := ok_cop G h1
      obtain ⟨r', q3, q4⟩ := ok_cop G h2
      exact se_chn q1 q3 q2 q4 (ok_E x cc X _ G h3) (ok_E y cc X _ G h4) (ok_E z cc X _ G h5) (nomarks _ _ (noSet h6))
    · cases h
  | .isN x, cc, X, a, G, h => by
    unfold chkE at h
    split at h
    · exact se_isN (ok_E x cc X _ G h)
    · cases h
  | .notN x, cc, X, a, G, h => by
    unfold chkE at h
    split at h
    · exact se_notN (ok_E x cc X _ G h)
    · cases h
  | .isB k x, cc, X, a, G, h => by unfold chkE at h; cases h
  | .notB k x, cc, X, a, G, h => by unfold chkE at h; cases h
  | .and es, cc, X, a, G, h => by
    unfold chkE at h
    split at h
    · rw [Bool.and_eq_true] at h
      exact se_and (ok_B es cc X _ _ G h.1 h.2).1
    · cases h
  | .or es, cc, X, a, G, h => by
    unfold chkE at h
    split at h
    · rw [Bool.and_eq_true] at h
      exact se_or (ok_B es cc X _ _ G h.1 h.2).2
    · cases h
  | .not x, cc, X, a, G, h => by
    unfold chkE at h
    split at h
    · exact se_not (ok_E x cc X _ G h)
    · cases h
  | .ite q x y, cc, X, a, G, h => by
    unfold chkE at h
    split at h
    · simp only [Bool.and_eq_true] at h
      exact se_ite (ok_E q cc X _ G h.1.1) (ok_E x cc X _ G h.1.2) (ok_E y cc X _ G h.2)
    · cases h
  | .idx x y, cc, X, a, G, h => by
    unfold chkE at h
    split at h
    · simp only [Bool.and_eq_true] at h
      exact se_idx G.units (ok_E x cc X _ G h.1.1) (ok_E y cc X _ G h.1.2) (plain_ix h.2)
    · cases h
  | .sli x lo hi, cc, X, a, G, h => by
    unfold chkE at h
    split at h
    · simp only [Bool.and_eq_true] at h
      exact se_sli (ok_E x cc X _ G h.1.1) (ok_O lo cc X _ G h.1.2) (ok_O hi cc X _ G h.2)
    · cases h
  | .call f as, cc, X, a, G, h => by
    unfold chkE at h
    split at h
    · rename_i x p xs pos
      simp only [Bool.and_eq_true, decide_eq_true_eq] at h
      obtain ⟨⟨h1, h2⟩, h3⟩ := h
      obtain ⟨k, fa, fd, ps, np, f1, f2, f3, f4, f5, f6⟩ := G.call f x h1
      obtain ⟨g1, g2, _⟩ := G.gl h2
      have C : Callee X c f x := ⟨CXn, k, fa, fd, ps, np, G.gu, f1, f2, f3, g1, f4, f5, f6, fun _ _ _ _ _ _ _ z => z.elim, g2⟩
      obtain ⟨q1, q2⟩ := ok_A as cc X xs G h3
      cases xs with
      | nil =>
        cases as with
        | nil => exact se_call0 C hexN
        | _ => unfold chkA at h3; cases h3
      | cons y r =>
        obtain ⟨q3, q4⟩ := q2 y r pos rfl
        exact se_call C hexN q1 q3 q4
    · cases h
  | .b1 f x, cc, X, a, G, h => by
    unfold chkE at h
    split at h
    · simp only [Bool.and_eq_true, decide_eq_true_eq] at h
      exact ok_b1 G h.1.1.1 h.1.1.2 (ok_E x cc X _ G h.1.2) h.2
    · cases h
  | .b2 f x y, cc, X, a, G, h => by
    unfold chkE at h
    split at h
    · simp only [Bool.and_eq_true, decide_eq_true_eq] at h
      obtain ⟨⟨⟨⟨⟨h1, h2⟩, h3⟩, h4⟩, h5⟩, h6⟩ := h
      exact ok_b2 G h1 h2 (ok_E x cc X _ G h3) (ok_E y cc X _ G h4) h5 h6
    · cases h
  | .mt f x y, cc, X, a, G, h => by
    unfold chkE at h
    split at h
    · simp only [Bool.and_eq_true, decide_eq_true_eq] at h
      obtain ⟨⟨⟨⟨⟨h1, h2⟩, h3⟩, h4⟩, h5⟩, h6⟩ := h
      exact ok_mt h1 (ok_E x cc X _ G h2) (ok_E y cc X _ G h3) h4 h5 h6
    · cases h
  | .get x y z, cc, X, a, G, h => by
    unfold chkE at h
    split at h
    · simp only [Bool.and_eq_true, decide_eq_true_eq] at h
      obtain ⟨⟨⟨⟨⟨⟨⟨h1, h2⟩, h3⟩, h4⟩, h5⟩, h6⟩, h7⟩, h8⟩ := h
      subst h1
      exact se_get G.units (ok_E x cc X _ G h2) (ok_E y cc X _ G h3) (ok_E z cc X _ G h4) (m2_of h5 h6 h7 h8)
    · cases h
  | .isi ty x, cc, X, a, G, h => by
    unfold chkE at h
    split at h
    · simp only [Bool.and_eq_true, decide_eq_true_eq] at h
      obtain ⟨⟨⟨⟨⟨h1, h2⟩, h3⟩, h4⟩, h5⟩, h6⟩ := h
      exact ok_isi G h1 h2 h3 h4 (ok_E x cc X _ G h5) h6
    · cases h
  | .lc elt tg it ifs own, cc, X, a, G, h => by
    unfold chkE at h
    split at h
    · rename_i e t i fs scope p
      simp only [Bool.and_eq_true, decide_eq_true_eq] at h
      obtain ⟨⟨⟨⟨⟨⟨h1, h2⟩, h3⟩, h4⟩, h5⟩, h6⟩, h7⟩ := h
      have hok := blk_own h3 h4
      rw [← G.N, ← G.sc] at hok
      exact se_lc G.calm (by rw [G.N]; exact G.nd) (ok_I it cc X t i G h1) ⟨hok, fun s H C cl fp => ok_T tg (cc.blk scope) _ t (G.blk s H scope C cl fp) h5, fun s H C cl fp => ok_F ifs (cc.blk scope) _ fs (G.blk s H scope C cl fp) h6,
        fun s H C cl fp => pe_frzS (ok_E elt (cc.blk scope) _ e (G.blk s H scope C cl fp) h7)⟩ (noFold h2 _)
    · cases h
  | .lc2 elt tg it ifs tg2 it2 ifs2 own own2, cc, X, a, G, h => by
    unfold chkE at h
    split at h
    · rename_i e t i fs t2 i2 fs2 scope p
      simp only [Bool.and_eq_true, decide_eq_true_eq] at h
      obtain ⟨⟨⟨⟨⟨⟨⟨⟨⟨⟨⟨h1, h2⟩, h2'⟩, h3⟩, h4⟩, h4'⟩, h5⟩, h6⟩, h8⟩, h9⟩, h10⟩, h7⟩ := h
      have hok := blk_own h3 h4
      rw [← G.N, ← G.sc] at hok
      exact se_lc2 G.calm (by rw [G.N]; exact G.nd) (ok_I it cc X t i G h1) hok (fun j hj => by have := List.all_eq_true.mp h4' j hj; simpa using this)
        (fun s H C cl fp => ok_T tg (cc.blk scope) _ t (G.blk s H scope C cl fp) h5) (fun s H C cl fp => ok_F ifs (cc.blk scope) _ fs (G.blk s H scope C cl fp) h6)
        (fun s H C cl fp => ok_I it2 (cc.blk scope) _ t2 i2 (G.blk s H scope C cl fp) h8) (fun s H C cl fp => ok_T tg2 (cc.blk scope) _ t2 (G.blk s H scope C cl fp) h9) (fun s H C cl fp => ok_F ifs2 (cc.blk scope) _ fs2 (G.blk s H scope C cl fp) h10)
        (fun s H C cl fp => pe_frzS (ok_E elt (cc.blk scope) _ e (G.blk s H scope C cl fp) h7)) (noFold h2 _) (noFold h2')
    · cases h
  | .dc _ _ _ _ _ _, cc, X, a, G, h => by unfold chkE at h; cases h
  | .pop i, cc, X, a, G, h => by unfold chkE at h; cases h
  | .lvals x, cc, X, a, G, h => by unfold chkE at h; cases h
  | .gdct g, cc, X, a, G, h => by
    unfold chkE at h
    split at h
    · simp only [Bool.and_eq_true, decide_eq_true_eq] at h
      exact ok_gdct G h.1.1.1 h.1.1.2 h.1.2 h.2
    · cases h
theorem ok_Es {c : Cfg} : ∀ (es : Es) (cc : CC) (X : Cx) (xs : List Expr), GoodC cc X c → chkEs cc es xs = true → PA X xs (rA (zx X) (Xp.none (zx X)) (evs c es))
  | .nil, cc, X, xs, G, h => by
    unfold chkEs at h
    split at h
    · exact sa_nil
    · cases h
  | .cons e es, cc, X, xs, G, h => by
    unfold chkEs at h
    split at h
    · simp only [Bool.and_eq_true] at h
      exact sa_cons (ok_E e cc X _ G h.1.1) (ok_Es es cc X _ G h.1.2) h.2
    · cases h
theorem ok_B {c : Cfg} : ∀ (es : Es) (cc : CC) (X : Cx) (xs : List Expr) (pos : Pos), GoodC cc X c → chkB cc es xs = true → neEs es = true → SAnd X c (Xp.none (zx X)) es xs pos ∧ SOr X c (Xp.none (zx X)) es xs pos
  | .nil, cc, X, xs, pos, G, h, hn => by cases hn
  | .cons e es, cc, X, xs, pos, G, h, hn => by
    unfold chkB at h
    split at h
    · rename_i x r
      rw [Bool.and_eq_true] at h
      have q := ok_E e cc X x G h.1
      have h2 := h.2
      cases es with
      | nil =>
        cases r with
        | nil => exact ⟨sand_one q, sor_one q⟩
        | cons y r => unfold chkB at h2; cases h2
      | cons f es =>
        cases r with
        | nil => unfold chkB at h2; cases h2
        | cons y r =>
          obtain ⟨q1, q2⟩ := ok_B (.cons f es) cc X (y :: r) pos G h2 rfl
          exact ⟨sand_cons q q1, sor_cons q q2⟩
    · cases h
theorem ok_P {c : Cfg} : ∀ (es : Es) (cc : CC) (X : Cx) (pos : Pos) (ks : List (Option Expr)) (vs : List Expr), GoodC cc X c → chkP cc es ks vs = true → ∃ trs, Prs X c (Xp.none (zx X)) pos es ks vs trs
  | .nil, cc, X, pos, ks, vs, G, h => by
    unfold chkP at h
    split at h
    · exact ⟨_, .nil⟩
    · cases h
  | .cons k .nil, cc, X, pos, ks, vs, G, h => by
    unfold chkP at h
    split at h
    · rw [Bool.and_eq_true] at h
      have h2 := h.2
      unfold chkQ at h2
      cases h2
    · cases h
  | .cons k (.cons v r), cc, X, pos, ks, vs, G, h => by
    unfold chkP at h
    split at h
    · rename_i x ks
      rw [Bool.and_eq_true] at h
      have h2 := h.2
      unfold chkQ at h2
      split at h2
      · rename_i y vs
        rw [Bool.and_eq_true] at h2
        obtain ⟨trs, q⟩ := ok_P r cc X pos ks vs G h2.2
        exact ⟨_, .cons (ok_E k cc X x G h.1) (ok_E v cc X y G h2.1) q⟩
      · cases h2
    · cases h
theorem ok_F {c : Cfg} : ∀ (es : Es) (cc : CC) (X : Cx) (xs : List Expr), GoodC cc X c → chkF cc es xs = true → PTs X xs (rTt (zx X) (Xp.none (zx X)) (evT c es))
  | .nil, cc, X, xs, G, h => by
    unfold chkF at h
    split at h
    · exact tt_nil
    · cases h
  | .cons e es, cc, X, xs, G, h => by
    unfold chkF at h
    split at h
    · exact tt_one (ok_E e cc X _ G h)
    · cases h
theorem ok_O {c : Cfg} : ∀ (e : Eo) (cc : CC) (X : Cx) (a : Option Expr), GoodC cc X c → chkO cc e a = true → PO X a (rOp (zx X) (Xp.none (zx X)) (evo c e))
  | .non, cc, X, a, G, h => by
    unfold chkO at h
    split at h
    · exact so_non
    · cases h
  | .som e, cc, X, a, G, h => by
    unfold chkO at h
    split at h
    · exact so_som (ok_E e cc X _ G h)
    · cases h
theorem ok_A {c : Cfg} : ∀ (as : As) (cc : CC) (X : Cx) (xs : List Expr), GoodC cc X c → chkA cc as xs = true → PA X xs (rG (zx X) (Xp.none (zx X)) (eva c as)) ∧ ∀ y r (pos : Pos), xs = y :: r → starEach (y :: r) X.env = (false, eval y X.env) :: starEach r X.env ∧ ((backTo pos (starEach r X.env)).any (·.1)) = false
  | .nil, cc, X, xs, G, h => by
    unfold chkA at h
    split at h
    · exact ⟨ga_nil, fun y r pos e => by cases e⟩
    · cases h
  | .val e as, cc, X, xs, G, h => by
    unfold chkA at h
    split at h
    · simp only [Bool.and_eq_true] at h
      obtain ⟨q1, q2⟩ := ok_A as cc X _ G h.1.2
      exact ⟨ga_val (ok_E e cc X _ G h.1.1) q1 h.2, fun y r pos e => by cases e; exact ⟨star_of h.2, any_of q2⟩⟩
    · cases h
  | .mut i as, cc, X, xs, G, h => by
    unfold chkA at h
    split at h
    · simp only [Bool.and_eq_true] at h
      obtain ⟨q1, q2⟩ := ok_A as cc X _ G h.1.2
      exact ⟨ga_mut (G.var h.1.1).1 q1 h.2, fun y r pos e => by cases e; exact ⟨star_of h.2, any_of q2⟩⟩
    · cases h
  | .tmp e as, cc, X, xs, G, h => by
    unfold chkA at h
    split at h
    · simp only [Bool.and_eq_true] at h
      obtain ⟨q1, q2⟩ := ok_A as cc X _ G h.1.2
      exact ⟨ga_tmp (ok_E e cc X _ G h.1.1) q1 h.2, fun y r pos e => by cases e; exact ⟨star_of h.2, any_of q2⟩⟩
    · cases h
theorem ok_I {c : Cfg} : ∀ (it : Vi.It) (cc : CC) (X : Cx) (tg i : Expr), GoodC cc X c → chkI cc it i = true ∧ itT it tg = true → PI X tg i (rI (zx X) (Xp.none (zx X)) (evi c it))
  | .of e, cc, X, tg, i, G, ⟨h, _⟩ => by unfold chkI at h; exact it_of (ok_E e cc X _ G h)
  | .rng e, cc, X, tg, i, G, ⟨h, _⟩ => by
    unfold chkI at h
    split at h
    · simp only [Bool.and_eq_true, decide_eq_true_eq] at h
      obtain ⟨⟨⟨h1, h2⟩, h3⟩, h4⟩ := h
      subst h1
      exact it_rng (G.gl h2).1 G.rng (ok_E e cc X _ G h3) h4
    · cases h
  | .rng2 e f, cc, X, tg, i, G, ⟨h, _⟩ => by
    unfold chkI at h
    split at h
    · simp only [Bool.and_eq_true, decide_eq_true_eq] at h
      obtain ⟨⟨⟨⟨⟨h1, h2⟩, h3⟩, h4⟩, h5⟩, h6⟩ := h
      subst h1
      exact it_rng2 (G.gl h2).1 G.rng (ok_E e cc X _ G h3) (ok_E f cc X _ G h4) h5 h6
    · cases h
  | .enu e, cc, X, tg, i, G, ⟨h, ht⟩ => by
    unfold chkI at h
    split at h
    · simp only [Bool.and_eq_true, decide_eq_true_eq] at h
      obtain ⟨⟨⟨h1, h2⟩, h3⟩, h4⟩ := h
      subst h1
      cases tg <;> first | (cases ht; done) | skip
      exact it_enu (G.gl h2).1 (G.bt ("enumerate", "enumerate") (by decide)) (ok_E e cc X _ G h3) h4
    · cases h
  | .zip _ _, cc, X, tg, i, G, ⟨h, _⟩ => by unfold chkI at h; cases h
  | .vals _, cc, X, tg, i, G, ⟨h, _⟩ => by unfold chkI at h; cases h
  | .items _, cc, X, tg, i, G, ⟨h, _⟩ => by unfold chkI at h; cases h
end
end Vi

set_option autoImplicit false
set_option Elab.async false
set_option linter.all false
set_option maxRecDepth 100000
/-! VI: the check of statements. -/
namespace Vi
open PySem PySem.Spec PyProof.Rows L2
/-- is the store done within the comprehension's frame -/
def swapB (sc : Scope) (x : Str) (p : Pos) : Expr → Bool
  | .ListComp _ _ s q => (if sc.kind.isAnnotationScope then ScopeKind.function else sc.kind) == .function && sc.names.lookup x == some .local && p.line == q.line && !(s.names.any fun (n, k) => n == x && (k == .local || k == .cell))
  | .SetComp _ _ s q => (if sc.kind.isAnnotationScope then ScopeKind.function else sc.kind) == .function && sc.names.lookup x == some .local && p.line == q.line && !(s.names.any fun (n, k) => n == x && (k == .local || k == .cell))
  | .DictComp _ _ _ s q => (if sc.kind.isAnnotationScope then ScopeKind.function else sc.kind) == .function && sc.names.lookup x == some .local && p.line == q.line && !(s.names.any fun (n, k) => n == x && (k == .local || k == .cell))
  | _ => false
def notComp : Expr → Bool
  | .ListComp _ _ _ _ => false
  | .SetComp _ _ _ _ => false
  | .DictComp _ _ _ _ _ => false
  | _ => true
def isTupE : Expr → Bool
  | .Tuple _ _ _ => true
  | _ => false
def isLcE : E → Bool
  | .lc _ _ _ _ _ => true
  | .lc2 _ _ _ _ _ _ _ _ _ => true
  | _ => false
/-- a pair of stores: swapped, not swapped, or not known -/
def swapN (sc : Scope) (ts vs : List Expr) : Option (Option (List Str)) :=
  if !(ts.length == 2 || ts.length == 3) || vs.length != ts.length || (if sc.kind.isAnnotationScope then ScopeKind.function else sc.kind) != .function then some none
  else if vs.any (fun | .Starred .. => true | _ => false) then some none
  else
    let line := (ts.head?.map (·.pos.line)).getD 0
    let names := ts.filterMap fun
      | .Name id pos => if sc.names.lookup id == some .local && pos.line == line then some id else none
      | _ => none
    if names.length != ts.length || names.eraseDups.length != names.length then some none
    else if vs.all (foldedForSure 8) then some none
    else if vs.all (constantsAlone 8) then none
    else some (some names)
theorem swapsWith_eq {env : PySem.Env} {sc : Scope} (h : env.scope = sc) (x : Str) (p : Pos) (line : Nat) (v : Expr) : swapsWith v (some (.Name x p)) line env = pure (swapB sc x p v) := by
  subst h
  cases v <;> rfl
theorem swapsNone {env : PySem.Env} {v : Expr} (h : notComp v = true) (t : Option Expr) (line : Nat) : swapsWith v t line env = pure false := by
  cases v <;> first | rfl | cases h
theorem swappedStores_eq {env : PySem.Env} {sc : Scope} (h : env.scope = sc) {ts vs : List Expr} {kt k2 : Nat} {pt pt2 : Pos} {r : Option (List Str)} (hr : swapN sc ts vs = some r) : swappedStores [.Tuple ts kt pt] (.Tuple vs k2 pt2) env = pure r := by
  subst h
  unfold swapN at hr
  unfold swappedStores
  unfold Env.blockKind Env.kindOf
  generalize (if env.scope.kind.isAnnotationScope = true then ScopeKind.function else env.scope.kind) = bk at hr ⊢
  dsimp only at hr ⊢
  split at hr
  · rename_i h1
    cases hr
    exact if_pos h1
  · rename_i h1
    refine Eq.trans (if_neg h1) ?_
    split at hr
    · rename_i h2
      cases hr
      exact if_pos h2
    · rename_i h2
      refine Eq.trans (if_neg h2) ?_
      split at hr
      · rename_i h3
        cases hr
        exact if_pos h3
      · rename_i h3
        refine Eq.trans (if_neg h3) ?_
        split at hr
        · rename_i h4
          cases hr
          exact if_pos h4
        · rename_i h4
          refine Eq.trans (if_neg h4) ?_
          split at hr
          · cases hr
          · rename_i h5
            cases hr
            exact if_neg h5
end Vi

set_option autoImplicit false
set_option Elab.async false
set_option linter.all false
set_option maxRecDepth 100000
/-! VI: the check of statements is sound. -/
namespace Vi
open PySem PySem.Spec PyProof.Rows L2
/-- values, as they come -/
def chkK (cc : CC) : Es → List Expr → Bool
  | .nil, [] => true
  | .cons e es, x :: r => chkE cc e x && chkK cc es r && notStar x
  | _, _ => false
/-- names that are stored -/
def nmsC (cc : CC) : List Nat → List Expr → Bool
  | [], [] => true
  | i :: is, .Name x _ :: r => decide (cc.N[i]? = some x) && locC cc x && !cc.ML.contains i && nmsC cc is r
  | _, _ => false
def chkPar (cc : CC) (is : List Nat) (es : Es) (ts vs : List Expr) : Bool := chkK cc es vs && (match swapN cc.sc ts vs with
  | some (some names) => (match is, ts, vs, names with
    | [i, j], [.Name x _, .Name y _], [_, _], [x', y'] => decide (x = x') && decide (y = y') && decide (cc.N[i]? = some x) && decide (cc.N[j]? = some y) && !decide (i = j) && decide (cc.kd x = some .local) && decide (cc.kd y = some .local) && !cc.ML.contains i && !cc.ML.contains j
    | _, _, _, _ => false)
  | some none => nmsC cc is ts && decide (is.length ≤ 1000)
  | none => false)
/-- items that are stored -/
def chkPs (cc : CC) : Ps → List Expr → Bool
  | .nil, [] => true
  | .cons i k kp ps, .Subscript o kx _ :: r => !kp && varE cc i o && chkE cc k kx && notSlice kx && chkPs cc ps r
  | _, _ => false
mutual
def chkS (cc : CC) : S → Stmt → Bool
  | .pass => fun s => match s with
    | .Pass _ => true
    | _ => false
  | .brk => fun s => match s with
    | .Break _ => true
    | _ => false
  | .cnt => fun s => match s with
    | .Continue _ => true
    | _ => false
  | .asg i e => fun s => match s with
    | .Assign [.Name x p] v _ => decide (cc.N[i]? = some x) && locC cc x && !cc.ML.contains i && chkE cc e v && (!swapB cc.sc x p v || (isLcE e && decide (cc.kd x = some .local)))
    | _ => false
  | .asgT tg e => fun s => match s with
    | .Assign [t] v _ => isTupE t && notComp v && !isTupE v && chkT cc tg t && chkE cc e v
    | _ => false
  | .par is es => fun s => match s with
    | .Assign [.Tuple ts _ _] (.Tuple vs _ _) _ => chkPar cc is es ts vs
    | _ => false
  | .put i k e kp => fun s => match s with
    | .Assign [.Subscript o kx _] v _ => !kp && varE cc i o && chkE cc k kx && chkE cc e v && notSlice kx && notComp v
    | _ => false
  | .putM ps es => fun s => match s with
    | .Assign [.Tuple ts _ _] (.Tuple vs _ _) _ => chkEs cc es vs && chkPs cc ps ts && decide (psLen ps ≤ 1000) && decide (swapN cc.sc ts vs = some none)
    | _ => false
  | .app i e => fun s => match s with
    | .Expr (.Call (.Attribute o n apos) [v] [] cpos) _ => decide (n = ("append" : Str)) && varE cc i o && chkE cc e v && notStar v && (apos.endLine == cpos.line)
    | _ => false
  | .exp e => fun s => match s with
    | .Expr v _ => chkE cc e v && notComp v
    | _ => false
  | .ifs q a b => fun s => match s with
    | .If u xs ys _ => chkE cc q u && chkSs cc a xs && chkSs cc b ys
    | _ => false
  | .whl q a => fun s => match s with
    | .While u xs [] _ => chkE cc q u && chkSs cc a xs
    | _ => false
  | .for tg it a => fun s => match s with
    | .For t i xs [] _ => chkT cc tg t && (chkI cc it i && itT it t) && notSet i && chkSs cc a xs
    | _ => false
  | .ret e => fun s => match s with
    | .Return (some v) _ => chkE cc e v
    | _ => false
  | .retv i => fun s => match s with
    | .Return (some v) _ => varE cc i v
    | _ => false
  | .retN => fun s => match s with
    | .Return none _ => true
    | _ => false
  | .rai _ _ => fun s => match s with
    | .Raise _ _ _ => true
    | _ => false
  | _ => fun _ => false
def chkSs (cc : CC) : Ss → List Stmt → Bool
  | .nil => fun xs => match xs with
    | [] => true
    | _ => false
  | .cons s ss => fun xs => match xs with
    | x :: r => chkS cc s x && chkSs cc ss r
    | _ => false
end
theorem sole_none {t v : Expr} {line : Nat} {env : PySem.Env} (h : notComp v = true) : swapsWithSole [t] v line env = pure false := swapsNone h (some t) line
section
variable {c : Cfg} {cc : CC} {X : Cx}
theorem ok_K : ∀ (es : Es) (xs : List Expr), GoodC cc X c → chkK cc es xs = true → PA X xs (rK (zx X) (Xp.none (zx X)) (evk c es))
  | .nil, [], G, h => ka_nil
  | .nil, _ :: _, G, h => by cases h
  | .cons _ _, [], G, h => by cases h
  | .cons e es, x :: r, G, h => by
    have h : (chkE cc e x && chkK cc es r && notStar x) = true := h
    simp only [Bool.and_eq_true] at h
    exact ka_cons (ok_E e cc X x G h.1.1) (ok_K es r G h.1.2) h.2
theorem ok_nms : ∀ (is : List Nat) (ts : List Expr), GoodC cc X c → nmsC cc is ts = true → PGs X ts (gNames is) ∧ (assignEach ts X.env).length = is.length ∧ (assignEach ts X.env).findIdx? (·.1) = none ∧ ∀ i ∈ is, i ∉ cc.ML
  | [], [], G, h => ⟨pgs_nil, rfl, rfl, fun i hi => by simp at hi⟩
  | [], _ :: _, G, h => by cases h
  | _ :: _, [], G, h => by cases h
  | i :: is, a :: r, G, h => by
    cases a with
    | Name x p =>
      have h : (decide (cc.N[i]? = some x) && locC cc x && !cc.ML.contains i && nmsC cc is r) = true := h
      simp only [Bool.and_eq_true, decide_eq_true_eq, Bool.not_eq_true'] at h
      obtain ⟨⟨⟨h1, h2⟩, h3⟩, h4⟩ := h
      obtain ⟨q1, q2, q3, q4⟩ := ok_nms is r G h4
      obtain ⟨l1, l2⟩ := G.loc h2
      refine ⟨pgs_cons (pg_name (by rw [G.N]; exact G.nd) (by rw [G.N]; exact h1) l1 l2) q1 rfl, by show (assignEach r X.env).length + 1 = is.length + 1; rw [q2], ?_, fun j hj => ?_⟩
      · show List.findIdx? (·.1) ((false, _) :: assignEach r X.env) = none
        rw [List.findIdx?_cons]
        simp [q3]
      · rcases List.mem_cons.mp hj with rfl | hj
        · simpa using h3
        · exact q4 j hj
    | _ => cases h
theorem ok_Ps : ∀ (ps : Ps) (ts : List Expr), GoodC cc X c → chkPs cc ps ts = true → PGs X ts (rPs (zx X) c cc.ML ps) ∧ (assignEach ts X.env).length = psLen ps ∧ (assignEach ts X.env).findIdx? (·.1) = none
  | .nil, [], G, h => ⟨rps_nil, rfl, rfl⟩
  | .nil, _ :: _, G, h => by cases h
  | .cons _ _ _ _, [], G, h => by cases h
  | .cons i k kp ps, a :: r, G, h => by
    cases a with
    | Subscript o kx p2 =>
      have h : (!kp && varE cc i o && chkE cc k kx && notSlice kx && chkPs cc ps r) = true := h
      simp only [Bool.and_eq_true, Bool.not_eq_true'] at h
      obtain ⟨⟨⟨⟨h1, h2⟩, h3⟩, h4⟩, h5⟩ := h
      obtain ⟨q1, q2, q3⟩ := ok_Ps ps r G h5
      have hsub : ∀ v, assign (.Subscript o kx p2) X.env v = (do
        let ov ← holding [v] (eval o X.env)
        let iv ← holding [v, ov] (eval kx X.env)
        standAt p2
        holding [v, ov, iv] (setItem ov iv v)
        release [v, ov, iv] []) := by
        intro w
        cases kx <;> first | rfl | cases h4
      have e : assignEach (.Subscript o kx p2 :: r) X.env = (false, assign (.Subscript o kx p2) X.env) :: assignEach r X.env := rfl
      refine ⟨rps_cons G.units (G.var h2).1 (ok_E k cc X kx G h3) q1 (by rw [e]; rfl) hsub, by rw [e]; show (assignEach r X.env).length + 1 = psLen ps + 1; rw [q2], ?_⟩
      rw [e, List.findIdx?_cons]
      simp [q3]
    | _ => cases h
theorem ok_par {is : List Nat} {es : Es} {ts vs : List Expr} {kt k2 : Nat} {pt pt2 pos : Pos} (G : GoodC cc X c) (h : chkPar cc is es ts vs = true) : PS X (.Assign [.Tuple ts kt pt] (.Tuple vs k2 pt2) pos) (rX (zx X) (Xp.none (zx X)) cc.ML (ex c (.par is es))) := by
  have hN : X.N.Nodup := by rw [G.N]; exact G.nd
  unfold chkPar at h
  rw [Bool.and_eq_true] at h
  obtain ⟨h1, h2⟩ := h
  have hk := ok_K es vs G h1
  split at h2
  · rename_i names hsw
    split at h2
    · rename_i i j x p y q a b x' y'
      simp only [Bool.and_eq_true, decide_eq_true_eq, Bool.not_eq_true', decide_eq_false_iff_not] at h2
      obtain ⟨⟨⟨⟨⟨⟨⟨⟨e1, e2⟩, n1⟩, n2⟩, ne⟩, k1⟩, k2'⟩, m1⟩, m2⟩ := h2
      subst e1 e2
      exact ss_par2 G.calm hN (by rw [G.N]; exact n1) (by rw [G.N]; exact n2) ne (by rw [G.sc]; exact k1) (by rw [G.sc]; exact k2') (by simpa using m1) (by simpa using m2) hk (swappedStores_eq G.sc hsw)
    · cases h2
  · rename_i hsw
    rw [Bool.and_eq_true, decide_eq_true_eq] at h2
    obtain ⟨q1, q2, q3, q4⟩ := ok_nms is ts G h2.1
    exact ss_parT G.calm hk q1 q2 q3 q4 h2.2 rfl (swappedStores_eq G.sc hsw)
  · cases h2
/-- name = [..], the store within the comprehension's frame -/
theorem ss_setLc {i : Nat} {x : Str} {p pos : Pos} {e : E} {v : Expr} (G : GoodC cc X c) (hi : cc.N[i]? = some x) (hl : cc.kd x = some .local) (hM : i ∉ cc.ML) (he : chkE cc e v = true) (hlc : isLcE e = true) (hsw : swapB cc.sc x p v = true) :
    PS X (.Assign [.Name x p] v pos) (rX (zx X) (Xp.none (zx X)) cc.ML (ex c (.asg i e))) := by
  have hN : X.N.Nodup := by rw [G.N]; exact G.nd
  have hsw' := (swapsWith_eq G.sc x p pos.line v).trans (by rw [hsw])
  have hxi : X.N[i]? = some x := by rw [G.N]; exact hi
  have hxl : X.env.scope.names.lookup x = some .local := by rw [G.sc]; exact hl
  cases e with
  | lc elt tg it ifs own =>
    unfold chkE at he
    split at he
    · rename_i e t i2 fs scope q
      simp only [Bool.and_eq_true, decide_eq_true_eq] at he
      obtain ⟨⟨⟨⟨⟨⟨h1, h2⟩, h3⟩, h4⟩, h5⟩, h6⟩, h7⟩ := he
      have hok := blkOk_by h3
      rw [← G.N, ← G.sc] at hok
      have := ps_setLc (i := i) (spos := pos) (te := rF (zx X) (Xp.none (zx X)) (mElt c elt)) (tt := rTt (zx X) (Xp.none (zx X)) (evT c ifs)) (g := rTg (zx X) [] tg) G.calm hN hxi hxl hsw' (ok_I it cc X t i2 G h1) hok (fun s H C cl fp => ok_T tg (cc.blk scope) _ t (G.blk s H scope C cl fp) h5) (fun s H C cl fp => ok_F ifs (cc.blk scope) _ fs (G.blk s H scope C cl fp) h6)
        (fun s H C cl fp => pe_frzS (ok_E elt (cc.blk scope) _ e (G.blk s H scope C cl fp) h7)) (noFold h2 _)
      rw [G.N, h4] at this
      exact psI this fun D σ H q => lc_read σ H _ (set_read (ea := .lc elt tg it ifs own) hM D σ H q)
    · cases he
  | lc2 elt tg it ifs tg2 it2 ifs2 own own2 =>
    unfold chkE at he
    split at he
    · rename_i e t i' fs t2 i2 fs2 scope p
      simp only [Bool.and_eq_true, decide_eq_true_eq] at he
      obtain ⟨⟨⟨⟨⟨⟨⟨⟨⟨⟨⟨h1, h2⟩, h2'⟩, h3⟩, h4⟩, h4'⟩, h5⟩, h6⟩, h8⟩, h9⟩, h10⟩, h7⟩ := he
      have hok := blkOk_by h3
      rw [← G.N, ← G.sc] at hok
      have := ps_setLc2 (i := i) (spos := pos) (vs1 := own2) (te := rF (zx X) (Xp.none (zx X)) (mElt c elt)) (tt := rTt (zx X) (Xp.none (zx X)) (evT c ifs)) (g := rTg (zx X) [] tg) (wi1 := rI (zx X) (Xp.none (zx X)) (evi c it2)) (g1 := rTg (zx X) [] tg2) (tt1 := rTt (zx X) (Xp.none (zx X)) (evT c ifs2)) G.calm hN hxi hxl hsw' (ok_I it cc X t i' G h1) hok (fun j hj => by rw [G.N, h4]; have := List.all_eq_true.mp h4' j hj; simpa using this)
        (fun s H C cl fp => ok_T tg (cc.blk scope) _ t (G.blk s H scope C cl fp) h5) (fun s H C cl fp => ok_F ifs (cc.blk scope) _ fs (G.blk s H scope C cl fp) h6)
        (fun s H C cl fp => ok_I it2 (cc.blk scope) _ t2 i2 (G.blk s H scope C cl fp) h8) (fun s H C cl fp => ok_T tg2 (cc.blk scope) _ t2 (G.blk s H scope C cl fp) h9) (fun s H C cl fp => ok_F ifs2 (cc.blk scope) _ fs2 (G.blk s H scope C cl fp) h10)
        (fun s H C cl fp => pe_frzS (ok_E elt (cc.blk scope) _ e (G.blk s H scope C cl fp) h7)) (noFold h2 _) (noFold h2')
      rw [G.N, h4] at this
      exact psI this fun D σ H q => lc2_read σ H _ (set_read (ea := .lc2 elt tg it ifs tg2 it2 ifs2 own own2) hM D σ H q)
    · cases he
  | _ => cases hlc
end
mutual
theorem ok_S {c : Cfg} : ∀ (s : S) (cc : CC) (X : Cx) (st : Stmt), GoodC cc X c → PassesOwn (model X.prog X.w) X.A X.env X.xe → chkS cc s st = true → PS X st (rX (zx X) (Xp.none (zx X)) cc.ML (ex c s))
  | .pass, cc, X, st, G, hp, h => by
    unfold chkS at h
    split at h
    · exact ss_pass
    · cases h
  | .brk, cc, X, st, G, hp, h => by
    unfold chkS at h
    split at h
    · exact ss_brk
    · cases h
  | .cnt, cc, X, st, G, hp, h => by
    unfold chkS at h
    split at h
    · exact ss_cnt
    · cases h
  | .asg i e, cc, X, st, G, hp, h => by
    unfold chkS at h
    split at h
    · rename_i x p v pos
      simp only [Bool.and_eq_true, decide_eq_true_eq, Bool.not_eq_true', Bool.or_eq_true] at h
      obtain ⟨⟨⟨⟨h1, h2⟩, h3⟩, h4⟩, h5⟩ := h
      obtain ⟨l1, l2⟩ := G.loc h2
      have hM : i ∉ cc.ML := by simpa using h3
      rcases h5 with h5 | h5
      · exact ss_asg (by rw [G.N]; exact G.nd) (by rw [G.N]; exact h1) l1 l2 hM (ok_E e cc X v G h4) ((swapsWith_eq G.sc x p _ v).trans (by rw [h5]))
      · by_cases hs : swapB cc.sc x p v = true
        · exact ss_setLc G h1 h5.2 hM h4 h5.1 hs
        · exact ss_asg (by rw [G.N]; exact G.nd) (by rw [G.N]; exact h1) l1 l2 hM (ok_E e cc X v G h4) ((swapsWith_eq G.sc x p _ v).trans (by rw [Bool.not_eq_true] at hs; rw [hs]))
    · cases h
  | .asgT tg e, cc, X, st, G, hp, h => by
    unfold chkS at h
    split at h
    · rename_i t v pos
      simp only [Bool.and_eq_true, Bool.not_eq_true'] at h
      obtain ⟨⟨⟨⟨h1, h2⟩, h3⟩, h4⟩, h5⟩ := h
      have ht := ok_T tg cc X t G h4
      have hv := ok_E e cc X v G h5
      cases t <;> first | (cases h1; done) | skip
      refine ss_asgT hv ht (sole_none h2) ?_ rfl
      cases v <;> first | rfl | cases h3
    · cases h
  | .par is es, cc, X, st, G, hp, h => by
    unfold chkS at h
    split at h
    · exact ok_par G h
    · cases h
  | .put i k e kp, cc, X, st, G, hp, h => by
    unfold chkS at h
    split at h
    · rename_i o kx p2 v pos
      simp only [Bool.and_eq_true, Bool.not_eq_true'] at h
      obtain ⟨⟨⟨⟨⟨h1, h2⟩, h3⟩, h4⟩, h5⟩, h6⟩ := h
      subst h1
      refine ss_put G.units (G.var h2).1 (ok_E k cc X kx G h3) (ok_E e cc X v G h4) (sole_none h6) rfl rfl ?_
      intro w
      cases kx <;> first | rfl | cases h5
    · cases h
  | .putM ps es, cc, X, st, G, hp, h => by
    unfold chkS at h
    split at h
    · rename_i ts kt pt vs k2 pt2 pos
      simp only [Bool.and_eq_true, decide_eq_true_eq] at h
      obtain ⟨⟨⟨h1, h2⟩, h3⟩, h4⟩ := h
      obtain ⟨q1, q2, q3⟩ := ok_Ps ps ts G h2
      exact ss_putM G.calm (ok_Es es cc X vs G h1) q1 q2 q3 h3 rfl (swappedStores_eq G.sc h4)
    · cases h
  | .app i e, cc, X, st, G, hp, h => by
    unfold chkS at h
    split at h
    · rename_i o n apos v cpos pos
      simp only [Bool.and_eq_true, decide_eq_true_eq] at h
      obtain ⟨⟨⟨⟨h1, h2⟩, h3⟩, h4⟩, h5⟩ := h
      subst h1
      obtain ⟨q, x, p, rfl⟩ := G.var h2
      exact ss_app trivial q (ok_E e cc X v G h3) rfl h4 h5
    · cases h
  | .appK _ _ _, cc, X, st, G, hp, h => by unfold chkS at h; cases h
  | .upd _ _, cc, X, st, G, hp, h => by unfold chkS at h; cases h
  | .exp e, cc, X, st, G, hp, h => by
    unfold chkS at h
    split at h
    · rw [Bool.and_eq_true] at h
      exact ss_exp (ok_E e cc X _ G h.1) (swapsNone h.2 _ _)
    · cases h
  | .ifs q a b, cc, X, st, G, hp, h => by
    unfold chkS at h
    split at h
    · simp only [Bool.and_eq_true] at h
      exact ss_ifs (ok_E q cc X _ G h.1.1) (ok_Ss a cc X _ G hp h.1.2) (ok_Ss b cc X _ G hp h.2)
    · cases h
  | .whl q a, cc, X, st, G, hp, h => by
    unfold chkS at h
    split at h
    · rw [Bool.and_eq_true] at h
      exact ss_whl hp (ok_E q cc X _ G h.1) (ok_Ss a cc X _ G hp h.2)
    · cases h
  | .for tg it a, cc, X, st, G, hp, h => by
    unfold chkS at h
    split at h
    · simp only [Bool.and_eq_true] at h
      exact ss_for hp G.calm (ok_I it cc X _ _ G h.1.1.2) (ok_T tg cc X _ G h.1.1.1) (ok_Ss a cc X _ G hp h.2) (noFold h.1.2 _)
    · cases h
  | .ret e, cc, X, st, G, hp, h => by
    unfold chkS at h
    split at h
    · exact ss_ret (ok_E e cc X _ G h)
    · cases h
  | .retv i, cc, X, st, G, hp, h => by
    unfold chkS at h
    split at h
    · exact ss_retv (G.var h).1
    · cases h
  | .retN, cc, X, st, G, hp, h => by
    unfold chkS at h
    split at h
    · exact ss_retN
    · cases h
  | .rai k e, cc, X, st, G, hp, h => ss_rai hexN
theorem ok_Ss {c : Cfg} : ∀ (ss : Ss) (cc : CC) (X : Cx) (xs : List Stmt), GoodC cc X c → PassesOwn (model X.prog X.w) X.A X.env X.xe → chkSs cc ss xs = true → PSs X xs (rX (zx X) (Xp.none (zx X)) cc.ML (exs c ss))
  | .nil, cc, X, xs, G, hp, h => by
    unfold chkSs at h
    split at h
    · exact ss_nil
    · cases h
  | .cons s ss, cc, X, xs, G, hp, h => by
    unfold chkSs at h
    split at h
    · rw [Bool.and_eq_true] at h
      exact ss_cons (ok_S s cc X _ G hp h.1) (ok_Ss ss cc X _ G hp h.2)
    · cases h
end
end Vi

set_option autoImplicit false
set_option Elab.async false
set_option linter.all false
set_option maxRecDepth 100000
/-! VI: defs keep their promises. -/
namespace Vi
open PySem PySem.Spec PyProof.Rows L2
section
variable {Z : Rw} {Sh H : Hp} {F : List Addr} {ms : List (Nat × V)} {σ : L2.St} {env : Env}
/-- slots that are empty yet -/
theorem SR.extend (s : SR Z Sh F [] σ H env) (n : Nat) (h : ∀ p ∈ ms, σ[p.1]? = some (some p.2)) : SR Z Sh F ms (σ ++ List.replicate n none) H (env ++ List.replicate n none) := by
  obtain ⟨S, h1, h2, h3⟩ := s.slots
  refine ⟨by simp [s.len], s.sub, ⟨S, fun i t e => ?_, h2, h3⟩, s.fr, fun p hp => ?_⟩
  · by_cases hi : i < env.length
    · rw [List.getElem?_append_left hi] at e
      obtain ⟨v, e1, r⟩ := h1 i t e
      exact ⟨v, by rw [List.getElem?_append_left (by rw [s.len]; exact hi)]; exact e1, r⟩
    · rw [List.getElem?_append_right (by omega)] at e
      rw [List.getElem?_replicate] at e
      split at e <;> cases e
  · have := h p hp
    obtain ⟨hi, _⟩ := List.getElem?_eq_some_iff.mp this
    rw [List.getElem?_append_left hi]
    exact this
/-- what a caller sees of the slots at the end -/
theorem SR.outs {d : Def} {vs : List V} (s : SR Z Sh F ms σ H env) (hl : vs.length = d.ps.length) (hm : ∀ (i : Nat) v, i ∈ d.ms → vs[i]? = some v → (i, v) ∈ ms) : SR Z Sh F [] (vs.map some) H (outsOf d env) := by
  obtain ⟨S, h1, h2, h3⟩ := s.slots
  have get : ∀ (i : Nat) (t : T), ((outsOf d env)[i]?).bind id = some t → i < d.ps.length ∧ i ∈ d.ms ∧ (env[i]?).bind id = some t := fun i t e => by
    unfold outsOf at e
    rw [List.getElem?_map] at e
    by_cases hi : i < d.ps.length
    · rw [List.getElem?_range hi] at e
      simp only [Option.map_some, Option.bind_some, id_eq] at e
      split at e
      · rename_i hc
        exact ⟨hi, by simpa using hc, e⟩
      · cases e
    · rw [List.getElem?_eq_none (by simpa using hi)] at e; cases e
  refine ⟨by rw [List.length_map, hl]; unfold outsOf; simp, s.sub, ⟨fun i => if ((outsOf d env)[i]?).bind id = none then [] else S i, fun i t e => ?_, fun i => ?_, fun i j hij a ha hb => ?_⟩, s.fr, fun p hp => by simp at hp⟩
  · obtain ⟨q1, q2, q3⟩ := get i t e
    obtain ⟨v, e1, r⟩ := h1 i t q3
    have hi : i < vs.length := by rw [hl]; exact q1
    have hv : vs[i]? = some vs[i] := List.getElem?_eq_getElem hi
    have := s.ms _ (hm i _ q2 hv)
    rw [e1] at this
    cases this
    refine ⟨vs[i], by rw [List.getElem?_map, hv]; rfl, ?_⟩
    dsimp only
    rw [if_neg (by rw [e]; simp)]
    exact r
  · dsimp only
    split
    · simp
    · exact h2 i
  · dsimp only at ha hb
    split at ha
    · simp at ha
    · split at hb
      · simp at hb
      · exact h3 i j hij a ha hb
end
/-- a def of the text as the IR has it -/
structure DefOk (P : Program) (w : World) (K : PySem.W.Frag) (cc : CC) (d : Def) (fa : Addr) : Type where
  name : Str
  qual : Str
  params : Arguments
  body : List Stmt
  scope : Scope
  fd : FuncData
  fun_ : FunD K name qual params body scope [] [] fa fd
  sc : FnScope d.ns d.ps scope
  chk : chkSs { cc with N := d.ns, sc := scope, fn := fun _ => true, ML := d.ms } d.body body = true
  kp : PySem.W.keepIn K (.ref fa) = true
  bd : Binds K fd d.ps []
  bdA : ∀ (s : Shared) (us : List Value), us.length = d.ps.length → BindsTo s fd ⟨us, []⟩ (d.ps.zip us)
/-- one def, from those that it calls -/
theorem def_step {P : Program} {w : World} {K : PySem.W.Frag} {mg : Str → Option Value} {base : Heap} {cc : CC} {d : Def} {fa : Addr} {c : Cfg} {k : Nat} (D : DefOk P w K cc d fa)
    (G : ∀ (X : Cx), X.prog = P → X.w = w → X.K = K → X.mg = mg → X.base = base → X.N = d.ns → X.env.scope = D.scope → X.calm = true → (∀ x, X.fn x = true) → X.A.guards = some [] → Room k X.A → GoodC { cc with N := d.ns, sc := D.scope, fn := fun _ => true, ML := d.ms } X c) :
    FnG P w K mg base CXn (k + 1) fa D.fd d.ps (spV ⟨P, w, K⟩ d.ps.length (fun ts => d.run c ts)) := by
  refine fun_gu D.fun_ D.sc (fun vs H Q E h => h.1) fun cdv A outer s H vs Q E gu hr ⟨hl, Sh, F, ts, sr, hc⟩ => ?_
  have hG := G (cxOf CXn P w K mg base d.ns D.qual D.scope fa cdv A outer s H E) rfl rfl rfl rfl rfl rfl rfl rfl (fun _ => rfl) gu hr
  refine ⟨_, ok_Ss d.body _ _ D.body hG (passes_of (K := fun e s'' => CXn outer H s E e s'') rfl) D.chk, ?_⟩
  have htl : ts.length = d.ps.length := by
    have := sr.len
    rw [List.length_map, List.length_map] at this
    omega
  have hc : match d.run c ts with
    | .no => False
    | .ret t outs => ∀ v H' Sh' A, SR ⟨P, w, K⟩ Sh' (A ++ F) [] (vs.map some) H' outs → Rep ⟨P, w, K⟩ Sh' H' v t A → Aft Sh F H Sh' H' → Q v H'
    | .ex _ _ _ => False := hc
  unfold Def.run at hc
  rw [if_pos htl] at hc
  have hpre : d.ps.length ≤ d.ns.length := by
    have := congrArg List.length D.sc.pre
    rw [List.length_take] at this
    omega
  let ms : List (Nat × V) := d.ms.filterMap fun i => (vs[i]?).map fun v => (i, v)
  have hms : ∀ (i : Nat) v, i ∈ d.ms → vs[i]? = some v → (i, v) ∈ ms := fun i v h1 h2 => List.mem_filterMap.mpr ⟨i, h1, by rw [h2]; rfl⟩
  have hms1 : ∀ p ∈ ms, p.1 ∈ d.ms ∧ vs[p.1]? = some p.2 := fun p hp => by
    obtain ⟨i, h1, h2⟩ := List.mem_filterMap.mp hp
    cases q : vs[i]? with
    | none => rw [q] at h2; cases h2
    | some v => rw [q] at h2; cases h2; exact ⟨h1, q⟩
  have s1 : SR ⟨P, w, K⟩ Sh F ms (L2.start d.ns vs) H (ts.map some ++ List.replicate (d.ns.length - d.ps.length) none) := by
    unfold L2.start
    rw [hl]
    exact sr.extend _ fun p hp => by rw [List.getElem?_map, (hms1 p hp).2]; rfl
  refine ⟨Sh, F, ms, _, s1, fun p hp => (hms1 p hp).1, ?_⟩
  cases q : exs c d.body (ts.map some ++ List.replicate (d.ns.length - d.ps.length) none) with
  | no => rw [q] at hc; exact hc
  | ex k2 x e => rw [q] at hc; exact hc
  | ok f e =>
    rw [q] at hc
    cases f with
    | nx => exact fun σ' H' Sh' s2 a2 => hc .non H' Sh' [] (s2.outs hl hms) (.sh .non) a2
    | brk => exact hc.elim
    | cnt => exact hc.elim
    | ret t => exact fun v σ' H' Sh' A s2 r2 a2 => hc v H' Sh' A (s2.outs hl hms) r2 a2
/-- a program's text as the IR has it -/
structure ProgOk (P : Program) (w : World) (K : PySem.W.Frag) (mg : Str → Option Value) (p : Prog) (cc : CC) where
  fa : Nat → Addr
  defs : ∀ f d, p.defs[f]? = some d → DefOk P w K cc d (fa f)
  fs : cc.fs = p.defs.map (·.name)
  at_ : ∀ f d, p.defs[f]? = some d → mg d.name = some (.ref (fa f))
  bf : ∀ q ∈ bltF, mg q.1 = none
  bt : ∀ q ∈ bltT, mg q.1 = none
  rng : mg "range" = none
  glo : ∀ (g : Nat) (x : Str), cc.gs[g]? = some (some x) → ∃ t v u, (p.glos.map (·.2))[g]? = some t ∧ mg x = some u ∧ RelV v u ∧ ∀ Sh, Rp ⟨P, w, K⟩ Sh v t
  gdc : ∀ (g : Nat) (x : Str), cc.ds[g]? = some (some x) → ∃ o l d kvs, (p.glos.map (·.2))[g]? = some (.dic o l) ∧ mg x = some (.ref d) ∧ KDk P w K d kvs ∧ kvs.map (fun p => keyT p.1) = l.map (·.1) ∧ ∀ Sh, RpL ⟨P, w, K⟩ Sh (kvs.map (·.2)) (l.map (·.2))
theorem tab_len {p : Prog} : ∀ {n f : Nat} {ts : List T} {d : Def}, p.defs[f]? = some d → p.tab n f ts ≠ .no → ts.length = d.ps.length
  | 0, f, ts, d, _, h => (h rfl).elim
  | n + 1, f, ts, d, hd, h => by
    unfold Prog.tab at h
    rw [hd] at h
    unfold Def.run at h
    by_cases hl : ts.length = d.ps.length
    · exact hl
    · simp only [if_neg hl] at h
      exact (h rfl).elim
/-- THE RULE: each def of a program, to any depth -/
theorem all_defs {P : Program} {w : World} {K : PySem.W.Frag} {mg : Str → Option Value} {base : Heap} {p : Prog} {cc : CC} (W : ProgOk P w K mg p cc) : ∀ (n f : Nat) (d : Def) (h : p.defs[f]? = some d),
    FnG P w K mg base CXn n (W.fa f) (W.defs f d h).fd d.ps (spV ⟨P, w, K⟩ d.ps.length (p.tab n f))
  | 0, f, d, h => by
    refine ⟨fun vs H Q E q => q.1, fun A outer s H args us vs Q E _ _ _ _ _ ⟨_, _, _, _, _, q⟩ => q.elim⟩
  | n + 1, f, d, h => by
    have e : p.tab (n + 1) f = fun ts => d.run (Cfg.mk (p.glos.map Prod.snd) (p.tab n)) ts := by
      funext ts
      show (match p.defs[f]? with
        | some d => d.run (Cfg.mk (p.glos.map Prod.snd) (p.tab n)) ts
        | none => .no) = _
      rw [h]
    rw [e]
    refine def_step (W.defs f d h) fun X e1 e2 e3 e4 e5 e6 e7 e8 e9 gu hr => ?_
    subst e1 e2 e3 e4 e5
    refine ⟨e6, (W.defs f d h).sc.nd, e7, e8, by have := hr.un; omega, gu, fun x _ => e9 x, W.bf, W.bt, W.rng, fun g x hx => ?_, W.glo, W.gdc⟩
    have hx : cc.fs[g]? = some x := hx
    rw [W.fs, List.getElem?_map] at hx
    cases q : p.defs[g]? with
    | none => rw [q] at hx; cases hx
    | some d2 =>
      rw [q] at hx; cases hx
      exact ⟨n, W.fa g, (W.defs g d2 q).fd, d2.ps, d2.ps.length, all_defs W n g d2 q, fun ts hts => tab_len q hts, hr, W.at_ g d2 q, (W.defs g d2 q).kp, (W.defs g d2 q).bd⟩
end Vi

set_option autoImplicit false
set_option Elab.async false
set_option linter.all false
set_option maxRecDepth 100000
/-! VI: a law's end: what the head tells of the module. -/
namespace Vi
open PySem PySem.Spec PyProof.Rows L2
mutual
/-- a value of the module stands for t -/
def repC (K : PySem.W.Frag) : T → Value → Bool
  | .non => fun u => match u with
    | .none => true
    | _ => false
  | .bl b => fun u => match u with
    | .bool d => decide (b = d)
    | _ => false
  | .int i => fun u => match u with
    | .int j _ => decide (i = j)
    | _ => false
  | .str s => fun u => match u with
    | .str x _ => decide (s.toArray = x.cps) && decide (s.length ≤ 1000000) && s.all fun c => decide (c < 1114112)
    | _ => false
  | .tup l => fun u => match u with
    | .ref a => (match K.lookup a with
      | some ⟨.type c, _, .seq its _, _⟩ => decide (c = "tuple") && decide (its.size ≤ sizeLine) && repCs K l its.toList
      | _ => false)
    | _ => false
  | _ => fun _ => false
def repCs (K : PySem.W.Frag) : List T → List Value → Bool
  | [] => fun us => match us with
    | [] => true
    | _ => false
  | t :: l => fun us => match us with
    | u :: us => repC K t u && repCs K l us
    | _ => false
end
mutual
theorem repC_ok {K : PySem.W.Frag} : ∀ (t : T) (u : Value), repC K t u = true → ∃ v, L2.RelV v u ∧ ∀ (P : Program) (w : World) (Sh : Hp), Rp ⟨P, w, K⟩ Sh v t
  | .non, u, h => by
    unfold repC at h
    split at h
    · exact ⟨.non, rfl, fun _ _ _ => .non⟩
    · cases h
  | .bl b, u, h => by
    unfold repC at h
    split at h
    · rw [decide_eq_true_eq] at h
      subst h
      exact ⟨.bl b, rfl, fun _ _ _ => .bl _⟩
    · cases h
  | .int i, u, h => by
    unfold repC at h
    split at h
    · rw [decide_eq_true_eq] at h
      subst h
      exact ⟨.int i, ⟨_, rfl⟩, fun _ _ _ => .int _⟩
    · cases h
  | .str s, u, h => by
    unfold repC at h
    split at h
    · rename_i x tk
      simp only [Bool.and_eq_true, decide_eq_true_eq, List.all_eq_true] at h
      obtain ⟨⟨h1, h2⟩, h3⟩ := h
      have e : x = sOf s := by cases x; simp only [sOf]; simp only at h1; rw [h1]
      rw [e]
      exact ⟨.str (sOf s), ⟨_, rfl⟩, fun _ _ _ => .str s ⟨by show s.length ≤ 16777216; omega, fun ch hc => by simpa using h3 ch hc⟩⟩
    · cases h
  | .tup l, u, h => by
    unfold repC at h
    split at h
    · rename_i a
      split at h
      · rename_i c od its n sl e
        simp only [Bool.and_eq_true, decide_eq_true_eq] at h
        obtain ⟨⟨h1, h2⟩, h3⟩ := h
        obtain ⟨vs, hv, hr⟩ := repCs_ok l its.toList h3
        refine ⟨.ref a, rfl, fun P w Sh => ?_⟩
        have q := hr P w Sh
        exact .tup (.inr ⟨_, its, n, e, by rw [h1], rfl, h2, hv⟩) q.1 q.2
      · cases h
    · cases h
  | .und, u, h => by unfold repC at h; cases h
  | .lst _ _, u, h => by unfold repC at h; cases h
  | .dic _ _, u, h => by unfold repC at h; cases h
theorem repCs_ok {K : PySem.W.Frag} : ∀ (l : List T) (us : List Value), repCs K l us = true → ∃ vs, Vals vs us ∧ ∀ (P : Program) (w : World) (Sh : Hp), RpL ⟨P, w, K⟩ Sh vs l
  | [], us, h => by
    unfold repCs at h
    split at h
    · exact ⟨[], .nil, fun _ _ _ => RpL.nil⟩
    · cases h
  | t :: l, us, h => by
    unfold repCs at h
    split at h
    · rename_i u us
      rw [Bool.and_eq_true] at h
      obtain ⟨v, r, q⟩ := repC_ok t u h.1
      obtain ⟨vs, rs, qs⟩ := repCs_ok l us h.2
      exact ⟨v :: vs, .cons r rs, fun P w Sh => RpL.cons (q P w Sh) (qs P w Sh)⟩
    · cases h
end
/-! ### module constants -/
def isDicT : T → Bool
  | .dic _ _ => true
  | _ => false
def glOf (p : Prog) : List (Str × T) := p.glos.filter fun q => !isDicT q.2
def dlOf (p : Prog) : List (Str × List (T × T)) := p.glos.filterMap fun q => match q.2 with
  | .dic _ l => some (q.1, l)
  | _ => none
def gsOf (p : Prog) : List (Option Str) := p.glos.map fun q => if isDicT q.2 then none else some q.1
def dsOf (p : Prog) : List (Option Str) := p.glos.map fun q => if isDicT q.2 then some q.1 else none
def keyOf : T → Key
  | .int i => .inl i
  | .str s => .inr (sOf s)
  | _ => .inl 0
def gloC (K : PySem.W.Frag) (q : Str × T) : Bool := match PySem.W.nsIn K mainGlobals q.1 with
  | some (some u) => repC K q.2 u
  | _ => false
def keyC : T → Value → Bool
  | .int i, .int j _ => decide (i = j)
  | .str s, .str x _ => decide (s.toArray = x.cps)
  | _, _ => false
def dicEs (K : PySem.W.Frag) : List (T × T) → List DictEntry → Bool
  | [], [] => true
  | q :: l, e :: es => keyC q.1 e.key && repC K q.2 e.val && dicEs K l es
  | _, _ => false
def dicAt (K : PySem.W.Frag) (x : Str) : Option (Array DictEntry) := match PySem.W.nsIn K mainGlobals x with
  | some (some (.ref d)) => if d == sysModules then none else (match K.lookup d with
    | some ⟨.type c, none, .dict es _, sl⟩ => if c = "dict" ∧ sl = #[] then some es else none
    | _ => none)
  | _ => none
def dicC (K : PySem.W.Frag) (q : Str × List (T × T)) : Bool := match dicAt K q.1 with
  | some es => dicEs K q.2 es.toList && decide (es.size ≤ sizeLine) && decide ((q.2.map fun p => keyOf p.1).Nodup)
  | none => false
def dicH (K : PySem.W.Frag) (x : Str) : List Int := match dicAt K x with
  | some es => es.toList.map (·.hash)
  | none => []
theorem keyC_ok {t : T} {v : Value} (h : keyC t v = true) : keyIs (keyOf t) v = true ∧ keyT (keyOf t) = t := by
  unfold keyC at h
  split at h
  · rw [decide_eq_true_eq] at h
    subst h
    exact ⟨by simp [keyOf, L2.keyIs, Value.isInt], rfl⟩
  · rename_i s x tk
    rw [decide_eq_true_eq] at h
    have e : x = sOf s := by cases x; simp only [sOf]; simp only at h; rw [h]
    subst e
    refine ⟨by simp [keyOf, L2.keyIs, Value.isStrOf], ?_⟩
    show T.str (sOf s).cps.toList = _
    rw [sOf_cps]
  · cases h
theorem dicEs_ok {P : Program} {w : World} {K : PySem.W.Frag} : ∀ (l : List (T × T)) (es : List DictEntry), dicEs K l es = true → es.map (·.hash) = (l.map fun p => keyH w (keyOf p.1)) →
    ∃ (kvs : List (Key × V)) (vs : List (Key × Value)), KV kvs vs ∧ Pairs (mixKind P w) es vs ∧ kvs.map (fun p => keyT p.1) = l.map (·.1) ∧ (∀ Sh, RpL ⟨P, w, K⟩ Sh (kvs.map (·.2)) (l.map (·.2))) ∧ (∀ e ∈ es, ∃ k, (mixKind P w).is k e.key = true ∧ e.hash = (mixKind P w).hash k) ∧ vs.map (·.1) = l.map fun p => keyOf p.1
  | [], [], _, _ => ⟨[], [], .nil, .nil, rfl, fun _ => RpL.nil, fun e he => by simp at he, rfl⟩
  | [], _ :: _, h, _ => by cases h
  | _ :: _, [], h, _ => by cases h
  | q :: l, e :: es, h, hh => by
    have h : (keyC q.1 e.key && repC K q.2 e.val && dicEs K l es) = true := h
    simp only [Bool.and_eq_true] at h
    rw [List.map_cons, List.map_cons, List.cons.injEq] at hh
    obtain ⟨kvs, vs, a1, a2, a3, a4, a5, a6⟩ := dicEs_ok (P := P) (w := w) l es h.2 hh.2
    obtain ⟨v, r, rp⟩ := repC_ok q.2 e.val h.1.2
    obtain ⟨k1, k2⟩ := keyC_ok h.1.1
    refine ⟨(keyOf q.1, v) :: kvs, (keyOf q.1, e.val) :: vs, .cons ⟨rfl, r⟩ a1, .cons k1 rfl a2, by rw [List.map_cons, List.map_cons, a3, k2], fun Sh => RpL.cons (rp P w Sh) (a4 Sh), fun x hx => ?_, by rw [List.map_cons, List.map_cons, a6]⟩
    rcases List.mem_cons.mp hx with rfl | hx
    · exact ⟨keyOf q.1, k1, hh.1⟩
    · exact a5 x hx
/-! ### the Hook -/
def bltN : List Str := bltF.map (·.1) ++ bltT.map (·.1) ++ ([("range" : Str)] : List Str)
def faOf (p : Prog) : List He.Fa := p.defs.map (fun d => .glo d.name) ++ bltN.map .free
abbrev AlV : Type := He.AlD × Bool × List (List Int)
def obsV (p : Prog) (fn : List He.DefD) (K : PySem.W.Frag) : AlV := (He.obsD (faOf p) fn K, (glOf p).all (gloC K) && (dlOf p).all (dicC K), (dlOf p).map fun q => dicH K q.1)
def valV (p : Prog) (fn : List He.DefD) (w : World) : AlV := (He.valD fn, true, (dlOf p).map fun q => q.2.map fun z => keyH w (keyOf z.1))
def obsVG (n : Nat) (p : Prog) (fn : List He.DefD) (g : Addr → Option Obj) : AlV := obsV p fn (He.frG g (He.asD g n))
def hookV (n : Nat) (p : Prog) (fn : List He.DefD) : PySem.W.Hook where
  α := AlV
  obs := fun s => obsVG n p fn s.heap.get?
  val := fun w => valV p fn w
  says := fun w h => ∃ K : PySem.W.Frag, K.In h ∧ obsV p fn K = valV p fn w
  of := fun _ _ e => ⟨_, He.frG_in, e⟩
  keeps := fun _ _ _ ⟨K, hK, c⟩ k => ⟨K, PySem.W.Frag.In.keeps hK k, c⟩
theorem obsVG_eq {n : Nat} {p : Prog} {fn : List He.DefD} {g : Addr → Option Obj} {s : Shared} (h : ∀ a, g a = s.heap.get? a) : obsVG n p fn g = (hookV n p fn).obs s := by
  have e : g = s.heap.get? := funext h
  rw [e] <;> rfl
/-! ### from the facts to the program -/
def ccOf (p : Prog) : CC := ⟨[], ⟨.function, [], false, false, []⟩, fun _ => true, p.defs.map (·.name), gsOf p, dsOf p, []⟩
structure DefC (p : Prog) (d : Def) (e : He.DefD) : Prop where
  at_ : e.at_ = (d.name, none)
  dfl : e.dfl = []
  kwd : e.kwd = []
  sc : FnScope d.ns d.ps e.scope
  chk : chkSs { ccOf p with N := d.ns, sc := e.scope, fn := fun _ => true, ML := d.ms } d.body e.body = true
  bd : ∀ (kV doc pm : Value) (an : Option Addr) (cdv ct : Value) (us : List Value), us.length = d.ps.length → bindArgs (PySem.W.fnOf e.name e.qual e.params e.body e.scope .none kV doc pm an cdv ct) ⟨us, []⟩ = pure (d.ps.zip us)
theorem paired_at {α β : Type} {r : α → β → Prop} : ∀ {xs : List α} {ys : List β} {i : Nat} {x : α}, Paired r xs ys → xs[i]? = some x → ∃ y, ys[i]? = some y ∧ r x y
  | _, _, _, _, .nil, h => by simp at h
  | _, _, 0, _, .cons h _, e => by simp at e; subst e; exact ⟨_, rfl, h⟩
  | _, _, i + 1, _, .cons _ t, e => by
    obtain ⟨y, h1, h2⟩ := paired_at t (i := i) (by simpa using e)
    exact ⟨y, by simpa using h1, h2⟩
theorem prog_ok {P : Program} {w : World} {K : PySem.W.Frag} {h : Heap} {mg : Str → Option Value} {p : Prog} {fn : List He.DefD} (X : K.In h) (G : h.Ns mainGlobals mg) (c : obsV p fn K = valV p fn w) (hd : Paired (DefC p) p.defs fn) : Nonempty (ProgOk P w K mg p (ccOf p)) := by
  have c1 : He.SaysD (faOf p) fn K := congrArg Prod.fst c
  have c2 : ((glOf p).all (gloC K) && (dlOf p).all (dicC K)) = true := congrArg (fun z : AlV => z.2.1) c
  have c3 : ((dlOf p).map fun q => dicH K q.1) = (dlOf p).map fun q => q.2.map fun z => keyH w (keyOf z.1) := congrArg (fun z : AlV => z.2.2) c
  rw [Bool.and_eq_true] at c2
  have fact : ∀ f ∈ faOf p, f.ok K = true := fun f hf => by
    obtain ⟨i, hi⟩ := List.getElem?_of_mem hf
    exact c1.fact i hi
  have free : ∀ x ∈ bltN, mg x = none := fun x hx => He.free_ok X G (fact (.free x) (List.mem_append_right _ (List.mem_map.mpr ⟨x, hx, rfl⟩)))
  have defs : ∀ (f : Nat) (d : Def), p.defs[f]? = some d → ∃ D : DefOk P w K (ccOf p) d (He.ga K d.name), True := fun f d hf => by
    obtain ⟨e, he, D⟩ := paired_at hd hf
    obtain ⟨fd, F⟩ := c1.def_ f he
    have e1 : e.dvs K = [] := by unfold He.DefD.dvs; rw [D.dfl]; rfl
    have e2 : e.kws K = [] := by unfold He.DefD.kws; rw [D.kwd]; rfl
    have e3 : He.fAd K e.at_ = He.ga K d.name := by rw [D.at_]; rfl
    rw [e1, e2, e3] at F
    exact ⟨⟨e.name, e.qual, e.params, e.body, e.scope, fd, F, D.sc, D.chk, F.kp, F.bindsN D.bd, F.bindsA D.bd⟩, trivial⟩
  refine ⟨⟨fun f => match p.defs[f]? with
    | some d => He.ga K d.name
    | none => 0, fun f d hf => ?_, rfl, fun f d hf => ?_, fun q hq => free _ (by unfold bltN; simp only [List.mem_append, List.mem_map]; exact .inl (.inl ⟨q, hq, rfl⟩)), fun q hq => free _ (by unfold bltN; simp only [List.mem_append, List.mem_map]; exact .inl (.inr ⟨q, hq, rfl⟩)), free _ (by unfold bltN; simp), fun g x hx => ?_, fun g x hx => ?_⟩⟩
  · rw [hf]
    exact Classical.choice (let ⟨D, _⟩ := defs f d hf; ⟨D⟩)
  · rw [hf]
    exact He.glo_ok X G (fact (.glo d.name) (List.mem_append_left _ (List.mem_map.mpr ⟨d, List.mem_of_getElem? hf, rfl⟩)))
  · have hx : (gsOf p)[g]? = some (some x) := hx
    unfold gsOf at hx
    rw [List.getElem?_map] at hx
    obtain ⟨q, hq, e⟩ := Option.map_eq_some_iff.mp hx
    split at e
    · cases e
    · rename_i hn
      cases e
      have hm : q ∈ glOf p := List.mem_filter.mpr ⟨List.mem_of_getElem? hq, by simpa using hn⟩
      have hc := List.all_eq_true.mp c2.1 q hm
      unfold gloC at hc
      split at hc
      · rename_i u hu
        obtain ⟨v, r, rp⟩ := repC_ok q.2 u hc
        exact ⟨q.2, v, u, by rw [List.getElem?_map, hq]; rfl, PySem.W.mg_of X G hu, r, fun Sh => rp P w Sh⟩
      · cases hc
  · have hx : (dsOf p)[g]? = some (some x) := hx
    unfold dsOf at hx
    rw [List.getElem?_map] at hx
    obtain ⟨q, hq, e⟩ := Option.map_eq_some_iff.mp hx
    split at e
    · rename_i hn
      cases e
      obtain ⟨x, t⟩ := q
      cases t with
      | dic o l =>
        have hm : (x, l) ∈ dlOf p := List.mem_filterMap.mpr ⟨(x, .dic o l), List.mem_of_getElem? hq, rfl⟩
        have hc := List.all_eq_true.mp c2.2 _ hm
        have hh : dicH K x = l.map fun z => keyH w (keyOf z.1) := List.map_inj_left.mp c3 (x, l) hm
        unfold dicC at hc
        unfold dicH at hh
        cases qa : dicAt K x with
        | none => rw [qa] at hc; cases hc
        | some es =>
          rw [qa] at hc hh
          simp only [Bool.and_eq_true, decide_eq_true_eq] at hc
          obtain ⟨⟨h1, h2⟩, h3⟩ := hc
          obtain ⟨kvs, vs, a1, a2, a3, a4, a5, a6⟩ := dicEs_ok (P := P) (w := w) l es.toList h1 hh
          unfold dicAt at qa
          split at qa
          · rename_i d hd
            split at qa
            · cases qa
            · rename_i hs
              split at qa
              · rename_i cc es' ep sl hk
                split at qa
                · rename_i hcs
                  cases qa
                  refine ⟨o, l, d, kvs, by rw [List.getElem?_map, hq]; rfl, PySem.W.mg_of X G hd, ⟨by simpa using hs, ?_, fun hp hX => ⟨vs, a1, ?_⟩⟩, a3, a4⟩
                  · have e1 := congrArg List.length a3
                    have e2 := a2.length
                    have e3 := congrArg List.length a6
                    simp only [List.length_map, Array.length_toList] at e1 e2 e3
                    omega
                  · refine ⟨_, es, ep, hX d _ hk, ⟨by rw [hcs.1], rfl, hcs.2⟩, rfl, fun e he => a5 e (Array.mem_def.mp he), a2, ?_⟩
                    rw [a6]; exact h3
                · cases qa
              · cases qa
          · cases qa
      | _ => cases hn
    · cases e
/-- the law's promise, at its script -/
theorem law_sp {P : Program} {w : World} {K : PySem.W.Frag} {p : Prog} {n li : Nat} {ns : List Int} {a : Addr} {H : Hp} {E : XK} (h : ∃ outs, p.tab n li [.lst false (ns.map .int)] = .ret (.bl true) outs) (hS : SqL K H a (ns.map V.int)) :
    spV ⟨P, w, K⟩ 1 (p.tab n li) [.ref a] H (fun v _ => v = .bl true) E := by
  obtain ⟨outs, e⟩ := h
  have r : Rp ⟨P, w, K⟩ H (.ref a) (.lst false (ns.map .int)) := by
    refine .lst hS (by simp) fun i v t h1 h2 => ?_
    rw [List.getElem?_map] at h1 h2
    cases q : ns[i]? with
    | none => rw [q] at h1; cases h1
    | some k => rw [q] at h1 h2; cases h1; cases h2; exact .int k
  refine ⟨rfl, H, [], [.lst false (ns.map .int)], ⟨rfl, fun _ _ z => z, ⟨fun _ => [], fun i t q => ?_, fun _ => ⟨by simp, fun a h => by simp at h⟩, fun _ _ _ a h => by simp at h⟩, ⟨by simp, fun a h => by simp at h⟩, fun p hp => by simp at hp⟩, ?_⟩
  · cases i with
    | zero => cases q; exact ⟨.ref a, rfl, .sh r⟩
    | succ i => simp at q
  · rw [e]
    exact fun v H' Sh' A _ rr _ => rr.blI
/-- the law's argument is bound -/
theorem law_bind {P : Program} {w : World} {K : PySem.W.Frag} {cc : CC} {d : Def} {fa : Addr} (D : DefOk P w K cc d fa) (hp : d.ps = [("script" : Str)]) (s : Shared) (u : Value) : BindsTo s D.fd ⟨[u], []⟩ [(("script" : Str), u)] := by
  have := D.bdA s [u] (by rw [hp]; rfl)
  rw [hp] at this
  exact this
end Vi

set_option autoImplicit false
set_option Elab.async false
set_option linter.all false
set_option maxRecDepth 100000
/-! VI: the law's call, where no repr is under way. -/
namespace Vi
open PySem PySem.Spec PyProof.Rows L2
section
variable {P : Program} {w : World} {K : PySem.W.Frag} {mg mb : Str → Option Value} {CX : CXT} {k : Nat} {fa a : Addr} {fd : FuncData} {x : Str} {sp : Sp} {s : Shared} {vs : List Value} {ns : List Int}
/-- the call, from an abstract heap that knows of nothing but the script -/
theorem law_from (kin : K.In s.heap) (gl : s.heap.Ns mainGlobals mg) (bl : s.heap.Ns builtinsNs mb) (boot : ∀ y : Str, y ≠ "__name__" → mb y = bootBuiltins y) (nolim : s.heap.NoLimit) (nogen : s.gens = #[])
    (sc : s.heap.get? a = some { cls := .type "list", data := .seq vs.toArray }) (rm : Room k callerA)
    (F : ∀ base : Heap, K.In base → base.Ns mainGlobals mg → FnG P w K mg base CX k fa fd [x] sp) (bd : ∀ (s : Shared) (u : Value), BindsTo s fd ⟨[u], []⟩ [(x, u)]) (hCX : ∀ H e s', CX [] H s (fun _ _ _ => False) e s' → False)
    (H : Hp) (only : Only H) (ok : HOk P w H s.heap) (just : ∀ b, H b ≠ none → b = a) (own : H a ≠ none → K.lookup a = none) (ask : sp [.ref a] H (fun v _ => v = .bl true) fun _ _ _ => False) :
    codeAny (model P w) callerA (.call (.ref fa) ⟨[.ref a], []⟩) (fun r s' => r = .ok (.ret (.bool true)) ∧ OldK s.heap s'.heap ∧ s'.os = s.os ∧ AllBare s'.gens) s := by
  have untr : ∀ b, b ≠ a → H b = none := fun b hb => Classical.byContradiction fun z => hb (just b z)
  have keepsNs : ∀ {b : Addr} {m : Str → Option Value}, s.heap.Ns b m → (hidT s.heap H).Ns b m := by
    rintro b m ⟨o, es, ep, g1, g2, g3⟩
    refine ⟨o, es, ep, hidT_get g1 (untr b fun z => ?_), g2, g3⟩
    rw [z, sc] at g1
    injection g1 with g1
    rw [← g1] at g2
    cases g2
  have kb : K.In (hidT s.heap H) := by
    intro b o z
    refine hidT_get (kin b o z) (Classical.byContradiction fun q => ?_)
    have e := just b q
    rw [e] at z q
    rw [own q] at z
    cases z
  obtain ⟨mc, l1, l2⟩ := nolim
  have md : Mod K mg (hidT s.heap H) := ⟨kb, keepsNs gl, ⟨mb, keepsNs bl, boot⟩, mc, keepsNs l1, l2⟩
  have en : Env0 P w K mg (hidT s.heap H) callerA [] s H := {
    frames := rfl
    mod := md
    bs := fun b o z => of_hidT z
    bsz := Nat.le_of_eq (hidT_size _ _)
    funs := trivial
    frf := fun b hb => by simp [frs] at hb
    hok := ok
    bare := .of_eq nogen }
  have go := (F _ kb (keepsNs gl)).run callerA [] s H ⟨[.ref a], []⟩ [.ref a] [.ref a] _ _ rfl rm en (bd s (.ref a)) (.cons rfl .nil) ask
  refine codeAny_mono go ?_
  intro res s2 z
  match res, z with
  | .error e, z => exact (hCX H e s2 z).elim
  | .ok .next, z => exact False.elim z
  | .ok .brk, z => exact False.elim z
  | .ok .cont, z => exact False.elim z
  | .ok (.ret u), ⟨v, H2, e1, e2, e3, e4, e5, e6⟩ =>
    have e6 : v = V.bl true := e6
    subst e6
    have e5 : u = Value.bool true := e5
    subst e5
    refine ⟨rfl, OldK.of_keep ?_, e1, e2⟩
    intro b o hb
    rcases only b with q | ⟨ob, xs, q⟩
    · exact e3.keep b o hb q (by simp [frs]) (by simp)
    · have g1 := (ok b _ q).1
      have g2 := (e4 b _ (e3.frzs b ob _ q)).1
      rw [hb] at g1
      injection g1 with g1
      rw [g1]; exact g2
theorem law_gu (kin : K.In s.heap) (gl : s.heap.Ns mainGlobals mg) (bl : s.heap.Ns builtinsNs mb) (boot : ∀ y : Str, y ≠ "__name__" → mb y = bootBuiltins y) (nolim : s.heap.NoLimit) (nogen : s.gens = #[])
    (sc : s.heap.get? a = some { cls := .type "list", data := .seq vs.toArray }) (hi : IntsAre vs ns) (hl : ns.length ≤ sizeLine) (rm : Room k callerA)
    (F : ∀ base : Heap, K.In base → base.Ns mainGlobals mg → FnG P w K mg base CX k fa fd [x] sp) (bd : ∀ (s : Shared) (u : Value), BindsTo s fd ⟨[u], []⟩ [(x, u)])
    (ask : ∀ H : Hp, Only H → SqL K H a (ns.map V.int) → sp [.ref a] H (fun v _ => v = .bl true) fun _ _ _ => False) (hCX : ∀ H e s', CX [] H s (fun _ _ _ => False) e s' → False) :
    codeAny (model P w) callerA (.call (.ref fa) ⟨[.ref a], []⟩) (fun r s' => r = .ok (.ret (.bool true)) ∧ OldK s.heap s'.heap ∧ s'.os = s.os ∧ AllBare s'.gens) s := by
  have go := law_from kin gl bl boot nolim nogen sc rm F bd hCX
  have rv : Vals (ns.map V.int) vs := vals_ints hi
  cases lk : K.lookup a with
  | none =>
    let o : Obj := { cls := .type "list", data := .seq vs.toArray }
    let H0 : Hp := fun b => if b = a then some (.frz o (.lst (ns.map V.int))) else none
    have at_a : H0 a = some (.frz o (.lst (ns.map V.int))) := if_pos rfl
    have off : ∀ b, b ≠ a → H0 b = none := fun b hb => if_neg hb
    have only0 : Only H0 := fun b => if hb : b = a then .inr ⟨o, ns.map V.int, by rw [hb]; exact at_a⟩ else .inl (off b hb)
    refine go H0 only0 (fun b u z => ?_) (fun b z => Classical.byContradiction fun hb => z (off b hb)) (fun _ => lk) (ask H0 only0 (.inl (.inr ⟨o, at_a⟩)))
    by_cases hb : b = a
    · rw [hb] at z ⊢
      rw [at_a] at z
      cases z
      exact ⟨sc, by rw [List.length_map]; exact hl, vs, _, rv, sc⟩
    · rw [off b hb] at z; cases z
  | some o =>
    have e := kin a o lk
    rw [sc] at e
    cases e
    have only0 : Only (fun _ => none) := fun _ => .inl rfl
    refine go (fun _ => none) only0 (fun b u z => nomatch z) (fun b z => absurd rfl z) (fun z => absurd rfl z) (ask _ only0 (.inr ⟨_, vs.toArray, _, lk, rfl, rfl, rfl, ?_, by simpa using rv⟩))
    rw [List.size_toArray, hi.length]
    exact hl
end
theorem walk_gu {l : PySem.W.OpenLaw} {n k : Nat} {q : Program} {loose : List Str} {XP : (Str → Option Value) → Heap → Prop} {YP : World → Heap → Prop} {d : DefRec} {CX : CXT} {x : Str}
    (hn : l.most = some n) (hn2 : n ≤ sizeLine) (hdf : d.params.defaults = []) (rm : Room k callerA)
    (F : ∀ (w : World) (mg : Str → Option Value) (fa : Addr) (h : Heap), YP w h → h.Ns mainGlobals mg → mg d.name = some (.ref fa) →
      ∃ (K : PySem.W.Frag) (fd : FuncData) (sp : Sp), K.In h ∧ (∀ (s : Shared) (u : Value), BindsTo s fd ⟨[u], []⟩ [(x, u)]) ∧
        (∀ (H : Hp) (a : Addr) (ns : List Int), ns.length ≤ n → Only H → SqL K H a (ns.map V.int) → sp [.ref a] H (fun v _ => v = .bl true) fun _ _ _ => False) ∧
        ∀ base : Heap, K.In base → base.Ns mainGlobals mg → FnG l.prog w K mg base CX k fa fd [x] sp)
    (hCX : ∀ (H : Hp) (s : Shared) (e : Value) (s' : Shared), CX [] H s (fun _ _ _ => False) e s' → False) :
    PySem.W.WalkO q loose XP YP l.row.toRowW d [] (fun f vs => PySem.call f vs) := by
  apply Att.attach_call hn hdf
  intro w s₀ s₁ mg mb fa o pm cd doc a vs ns G Y ho hd hcd hmg hobj hints hlen hg
  obtain ⟨K, fd, sp, c1, c2, c3, c4⟩ := F w mg fa _ Y G.T.g hmg
  exact law_gu c1 G.T.g G.T.b G.T.builtins G.T.nolimit hg hobj hints (Nat.le_trans hlen hn2) rm c4 c2 (fun H h1 h2 => c3 H a ns hlen h1 h2) fun H e s' => hCX H s₁ e s'
end Vi

set_option autoImplicit false
set_option Elab.async false
set_option linter.all false
set_option maxRecDepth 100000
/-! VI: reckoning with the meaning (for the laws' mathematics). -/
namespace Vi
theorem back_self (e : Env) (is : List Nat) : back e e is = e := by
  apply List.ext_getElem?
  intro j
  rw [back_get']
  by_cases y : j ∈ is
  · rw [if_pos y]
    by_cases h : j < e.length
    · rw [if_pos h, List.getElem?_eq_getElem h]; rfl
    · rw [if_neg h, List.getElem?_eq_none (by omega)]
  · rw [if_neg y]
theorem back_of {e0 e : Env} {is : List Nat} (h : wipe e is = wipe e0 is) : back e0 e is = e0 := by
  rw [← back_wipe, h, back_wipe, back_self]
/-- turns whose body leaves all but the block's own slots as it was: a map with a filter -/
theorem turns_fm {own : List Nat} {body : T → M (Option T)} {g : T → Option T} : ∀ (l : List T) (acc : List T) (e : Env), (∀ x ∈ l, ∃ e1, body x (wipe e own) = .ok (g x) e1 ∧ wipe e1 own = wipe e own) → acc.length + l.length ≤ line →
    ∃ e1, turns own body l acc e = .ok (acc ++ l.filterMap g) e1 ∧ wipe e1 own = wipe e own
  | [], acc, e, _, _ => ⟨e, by simp [turns], rfl⟩
  | x :: r, acc, e, h, hl => by
    obtain ⟨e1, h1, h2⟩ := h x List.mem_cons_self
    have hr : ∀ y ∈ r, ∃ e2, body y (wipe e1 own) = .ok (g y) e2 ∧ wipe e2 own = wipe e1 own := fun y hy => by
      rw [h2]
      exact h y (List.mem_cons_of_mem _ hy)
    rw [List.length_cons] at hl
    show ∃ e3, ((body x (wipe e own)).bind fun o e => match o with
      | some t => if acc.length < line then turns own body r (acc ++ [t]) e else .no
      | none => turns own body r acc e) = _ ∧ _
    rw [h1]
    cases q : g x with
    | none =>
      obtain ⟨e3, h3, h4⟩ := turns_fm r acc e1 hr (by omega)
      exact ⟨e3, by rw [List.filterMap_cons, q]; exact h3, h4.trans h2⟩
    | some t =>
      obtain ⟨e3, h3, h4⟩ := turns_fm r (acc ++ [t]) e1 hr (by rw [List.length_append, List.length_singleton]; omega)
      refine ⟨e3, ?_, h4.trans h2⟩
      rw [List.filterMap_cons, q]
      show (if acc.length < line then turns own body r (acc ++ [t]) e1 else .no) = _
      rw [if_pos (by omega), h3]
      simp
/-- turns whose body changes the state, by a fold -/
theorem turns_fold {own : List Nat} {body : T → M (Option T)} {σ : Type} (env : σ → Env) (st : T → σ → σ) (g : T → σ → T) : ∀ (l : List T) (acc : List T) (s : σ) (e : Env), wipe e own = wipe (env s) own → (∀ x ∈ l, ∀ s, ∃ e1, body x (wipe (env s) own) = .ok (some (g x s)) e1 ∧ wipe e1 own = wipe (env (st x s)) own) → acc.length + l.length ≤ line →
    ∃ e1, turns own body l acc e = .ok (acc ++ (l.foldl (fun (p : List T × σ) x => (p.1 ++ [g x p.2], st x p.2)) ([], s)).1) e1 ∧ wipe e1 own = wipe (env (l.foldl (fun (p : List T × σ) x => (p.1 ++ [g x p.2], st x p.2)) ([], s)).2) own
  | [], acc, s, e, he, _, _ => ⟨e, by simp [turns], he⟩
  | x :: r, acc, s, e, he, h, hl => by
    obtain ⟨e1, h1, h2⟩ := h x List.mem_cons_self s
    rw [List.length_cons] at hl
    have aux : ∀ (l : List T) (a : List T) (s : σ), (l.foldl (fun (p : List T × σ) x => (p.1 ++ [g x p.2], st x p.2)) (a, s)).1 = a ++ (l.foldl (fun (p : List T × σ) x => (p.1 ++ [g x p.2], st x p.2)) ([], s)).1 ∧ (l.foldl (fun (p : List T × σ) x => (p.1 ++ [g x p.2], st x p.2)) (a, s)).2 = (l.foldl (fun (p : List T × σ) x => (p.1 ++ [g x p.2], st x p.2)) ([], s)).2 := by
      intro l
      induction l with
      | nil => intro a s; simp
      | cons y l ih =>
        intro a s
        simp only [List.foldl_cons, List.nil_append]
        obtain ⟨i1, i2⟩ := ih (a ++ [g y s]) (st y s)
        obtain ⟨i3, i4⟩ := ih [g y s] (st y s)
        rw [i1, i2, i3, i4]
        simp
    obtain ⟨e3, h3, h4⟩ := turns_fold env st g r (acc ++ [g x s]) (st x s) e1 h2 (fun y hy => h y (List.mem_cons_of_mem _ hy)) (by rw [List.length_append, List.length_singleton]; omega)
    obtain ⟨a1, a2⟩ := aux r [g x s] (st x s)
    refine ⟨e3, ?_, ?_⟩
    · show ((body x (wipe e own)).bind fun o e => match o with
        | some t => if acc.length < line then turns own body r (acc ++ [t]) e else .no
        | none => turns own body r acc e) = _
      rw [he, h1]
      show (if acc.length < line then turns own body r (acc ++ [g x s]) e1 else .no) = _
      rw [if_pos (by omega), h3, List.foldl_cons, List.nil_append, a1]
      simp
    · rw [List.foldl_cons, List.nil_append, a2]
      exact h4
/-! ### the meaning's equations, without comprehensions, loops and calls -/
section
variable (c : Cfg)
theorem ev_var (i : Nat) : ev c (.var i) = getVar i := rfl
theorem ev_rd (i : Nat) : ev c (.rd i) = rdVar i := rfl
theorem ev_cst (t : T) : ev c (.cst t) = fun e => .ok t e := rfl
theorem ev_glo (g : Nat) : ev c (.glo g) = need (c.glos[g]?) := rfl
theorem ev_tup (es : Es) : ev c (.tup es) = fun e => (evs c es e).bind fun l e => .ok (.tup l) e := rfl
theorem ev_lst (es : Es) : ev c (.lst es) = fun e => (evs c es e).bind fun l e => .ok (.lst true l) e := rfl
theorem ev_dct (es : Es) : ev c (.dct es) = fun e => (evp c es [] e).bind fun l e => .ok (.dic true l) e := rfl
theorem ev_bin (op : Bop) (a b : E) : ev c (.bin op a b) = fun e => (opd (isRd a) (ev c a) e).bind fun o e => (opd (isRd b) (ev c b) e).bind fun p e => fin2 o p (binT op) e := rfl
theorem ev_neg (a : E) : ev c (.neg a) = fun e => (opd (isRd a) (ev c a) e).bind fun o e => fin1 o negT e := rfl
theorem ev_cmp (op : Cop) (a b : E) : ev c (.cmp op a b) = fun e => (opd (isRd a) (ev c a) e).bind fun o e => (opd (isRd b) (ev c b) e).bind fun p e => fin2 o p (fun x y => (cmpT op x y).map .bl) e := rfl
theorem ev_chn (o1 o2 : Cop) (a b d : E) : ev c (.chn o1 o2 a b d) = fun e => (opd (isRd a) (ev c a) e).bind fun o e => (opd (isRd b) (ev c b) e).bind fun p e => (fin2 o p (fun x y => (cmpT o1 x y).map .bl) e).bind fun t e => match t with
    | .bl true => (opd (isRd d) (ev c d) e).bind fun q e => fin2 p q (fun x y => (cmpT o2 x y).map .bl) e
    | .bl false => .ok (.bl false) e
    | _ => .no := rfl
theorem ev_isN (a : E) : ev c (.isN a) = fun e => (opd (isRd a) (ev c a) e).bind fun o e => fin1 o (isNf true) e := rfl
theorem ev_notN (a : E) : ev c (.notN a) = fun e => (opd (isRd a) (ev c a) e).bind fun o e => fin1 o (isNf false) e := rfl
theorem ev_and (es : Es) : ev c (.and es) = evAnd c es := rfl
theorem ev_or (es : Es) : ev c (.or es) = evOr c es := rfl
theorem ev_not (a : E) : ev c (.not a) = fun e => (opd (isRd a) (ev c a) e).bind fun o e => fin1 o (fun t => (tru t).map fun b => .bl (!b)) e := rfl
theorem ev_ite (q a b : E) : ev c (.ite q a b) = fun e => (opd (isRd q) (ev c q) e).bind fun o e => (fin1 o (fun t => (tru t).map .bl) e).bind fun t e => match t with
    | .bl true => strong (isRd a) (ev c a) e
    | .bl false => strong (isRd b) (ev c b) e
    | _ => .no := rfl
theorem ev_idx (a i : E) : ev c (.idx a i) = fun e => (opd (isRd a) (ev c a) e).bind fun o e => (opd (isRd i) (ev c i) e).bind fun p e => fin2 o p idxT e := rfl
theorem ev_sli (a : E) (lo hi : Eo) : ev c (.sli a lo hi) = fun e => (opd (isRd a) (ev c a) e).bind fun o e => (evo c lo e).bind fun l e => (evo c hi e).bind fun h e => fin1 o (fun t => sliT t l h) e := rfl
theorem ev_call (f : Nat) (as : As) : ev c (.call f as) = fun e => (eva c as e).bind fun l e => callM c f l e := rfl
theorem ev_b1 (f : B1) (a : E) : ev c (.b1 f a) = fun e => (opd (isRd a) (ev c a) e).bind fun o e => fin1 o (b1T f) e := rfl
theorem ev_b2 (f : B2) (a b : E) : ev c (.b2 f a b) = fun e => (opd (isRd a) (ev c a) e).bind fun o e => (opd (isRd b) (ev c b) e).bind fun p e => fin2 o p (b2T f) e := rfl
theorem ev_mt (f : Mt) (a b : E) : ev c (.mt f a b) = fun e => (strong (isRd a) (ev c a) e).bind fun t e => match t with
    | .str s => (opd (isRd b) (ev c b) e).bind fun p e => fin1 p (mtT f s) e
    | _ => .no := rfl
theorem ev_isi (ty : Ty) (a : E) : ev c (.isi ty a) = fun e => (opd (isRd a) (ev c a) e).bind fun o e => fin1 o (fun t => (isiT ty t).map .bl) e := rfl
theorem ex_asg (i : Nat) (a : E) : ex c (.asg i a) = fun e => (strong (isRd a) (ev c a) e).bind fun t e => (setVar i t e).bind fun _ e => .ok .nx e := rfl
theorem ex_asgT (tg : Tg) (a : E) : ex c (.asgT tg a) = fun e => (strong (isRd a) (ev c a) e).bind fun t e => (asg tg (fz t) e).bind fun _ e => .ok .nx e := rfl
theorem ex_par (is : List Nat) (es : Es) : ex c (.par is es) = fun e => (evk c es e).bind fun l e => (parM is l e).bind fun _ e => .ok .nx e := rfl
theorem ex_exp (a : E) : ex c (.exp a) = fun e => (strong (isRd a) (ev c a) e).bind fun _ e => .ok .nx e := rfl
theorem ex_ifs (q : E) (a b : Ss) : ex c (.ifs q a b) = fun e => (testM (isRd q) (ev c q) e).bind fun k e => if k then exs c a e else exs c b e := rfl
theorem ex_ret (a : E) : ex c (.ret a) = fun e => (strong (isRd a) (ev c a) e).bind fun t e => .ok (.ret t) e := rfl
theorem ex_retv (i : Nat) : ex c (.retv i) = fun e => match (e[i]?).bind id with
    | some t => .ok (.ret t) (e.set i none)
    | none => .no := rfl
theorem ex_put (i : Nat) (k a : E) (b : Bool) : ex c (.put i k a b) = fun e => (strong (isRd a) (ev c a) e).bind fun t e => if isOwnX e i then (strong (isRd k) (ev c k) e).bind fun z e => (putM1 i (fz z) (kept b t) e).bind fun _ e => .ok .nx e else .no := rfl
theorem ex_app (i : Nat) (a : E) : ex c (.app i a) = fun e => if isOwnL e i then (strong (isRd a) (ev c a) e).bind fun t e => (appM i t e).bind fun _ e => .ok .nx e else .no := rfl
theorem exs_nil : exs c .nil = fun e => .ok .nx e := rfl
theorem exs_cons (s : S) (ss : Ss) : exs c (.cons s ss) = fun e => (ex c s e).bind fun f e => match f with
    | .nx => exs c ss e
    | f => .ok f e := rfl
end
/-- the turns' body of a comprehension -/
theorem ev_lcg {c : Cfg} {elt : E} {tg : Tg} {it : It} {ifs : Es} {own : List Nat} {e e0 : Env} {l : List T} (g : T → Option T) (hi : evi c it e = .ok l e0) (hp : plainAt e0 own = true) (ht : tgIn tg own = true) (hl : l.length ≤ line)
    (hb : ∀ x ∈ l, ∃ e1, ((asg tg x (wipe e0 own)).bind fun _ e => (evT c ifs e).bind fun b e => if b then (strong (isRd elt) (ev c elt) e).bind fun t e => .ok (some (fz t)) e else .ok none e) = .ok (g x) e1 ∧ wipe e1 own = wipe e0 own) : ev c (.lc elt tg it ifs own) e = .ok (.lst true (l.filterMap g)) e0 := by
  obtain ⟨e1, h1, h2⟩ := turns_fm (own := own) (body := lcBody c tg ifs elt) (g := g) l [] e0 hb (by simpa using hl)
  show ((evi c it e).bind fun l e0 => if (plainAt e0 own && tgIn tg own) = true then noEx ((turns own (lcBody c tg ifs elt) l [] e0).bind fun acc e => R.ok (T.lst true acc) (back e0 e own)) else .no) = _
  rw [hi]
  show (if (plainAt e0 own && tgIn tg own) = true then noEx ((turns own (lcBody c tg ifs elt) l [] e0).bind fun acc e' => R.ok (T.lst true acc) (back e0 e' own)) else .no) = _
  rw [hp, ht, h1]
  show R.ok (T.lst true _) (back e0 e1 own) = _
  rw [back_of h2]
  simp
theorem evi_rng {c : Cfg} {a : E} {e e1 : Env} {t : T} {l : List T} (hr : isRd a = none) (h : ev c a e = .ok t e1) (hl : rngT (.int 0) t = some l) : evi c (.rng a) e = .ok l e1 := by
  show (strong (isRd a) (ev c a) e).bind (fun t e => need (rngT (.int 0) t) e) = _
  rw [hr]
  show (ev c a e).bind (fun t e => need (rngT (.int 0) t) e) = _
  rw [h]
  show need (rngT (.int 0) t) e1 = _
  rw [hl]
  rfl
/-- a loop that runs through -/
theorem forL_inv {σ : Type} {tg : T → M Unit} {body : M Fl} (I : σ → Env → Prop) (st : T → σ → σ) : ∀ (l : List T) (s : σ) (e : Env), I s e → (∀ x ∈ l, ∀ s e, I s e → ∃ e1, ((tg x e).bind fun _ e => body e) = .ok .nx e1 ∧ I (st x s) e1) → ∃ e1, forL tg body l e = .ok .nx e1 ∧ I (l.foldl (fun s x => st x s) s) e1
  | [], s, e, h, _ => ⟨e, rfl, h⟩
  | x :: r, s, e, h, hb => by
    obtain ⟨e1, h1, h2⟩ := hb x List.mem_cons_self s e h
    obtain ⟨e2, h3, h4⟩ := forL_inv I st r (st x s) e1 h2 fun y hy => hb y (List.mem_cons_of_mem _ hy)
    refine ⟨e2, ?_, h4⟩
    show ((tg x e).bind fun _ e => (body e).bind fun f e => match f with
      | .nx => forL tg body r e
      | .cnt => forL tg body r e
      | .brk => .ok .nx e
      | .ret t => .ok (.ret t) e) = _
    cases q : tg x e with
    | no => rw [q] at h1; cases h1
    | ex k d e => rw [q] at h1; cases h1
    | ok u e3 =>
      rw [q] at h1
      show ((body e3).bind _) = _
      have h1 : body e3 = .ok .nx e1 := h1
      rw [h1]
      exact h3
theorem ex_for (c : Cfg) (tg : Tg) (it : It) (b : Ss) : ex c (.for tg it b) = fun e => (evi c it e).bind fun l e => forL (asg tg) (exs c b) l e := rfl
theorem exs_nx {c : Cfg} {s : S} {ss : Ss} {e e1 e2 : Env} {f : Fl} (h : ex c s e = .ok .nx e1) (h2 : exs c ss e1 = .ok f e2) : exs c (.cons s ss) e = .ok f e2 := by
  show ((ex c s e).bind fun f e => match f with
    | .nx => exs c ss e
    | f => .ok f e) = _
  rw [h]
  exact h2
theorem exs_ret {c : Cfg} {s : S} {ss : Ss} {e e1 : Env} {t : T} (h : ex c s e = .ok (.ret t) e1) : exs c (.cons s ss) e = .ok (.ret t) e1 := by
  show ((ex c s e).bind fun f e => match f with
    | .nx => exs c ss e
    | f => .ok f e) = _
  rw [h]
  rfl
/-- a def's end -/
theorem run_ret {c : Cfg} {d : Def} {ts : List T} {t : T} {e : Env} (hl : ts.length = d.ps.length) (h : exs c d.body (ts.map some ++ List.replicate (d.ns.length - d.ps.length) none) = .ok (.ret t) e) : d.run c ts = .ret t (outsOf d e) := by
  unfold Def.run
  rw [if_pos hl, h]
theorem run_nx {c : Cfg} {d : Def} {ts : List T} {e : Env} (hl : ts.length = d.ps.length) (h : exs c d.body (ts.map some ++ List.replicate (d.ns.length - d.ps.length) none) = .ok .nx e) : d.run c ts = .ret .non (outsOf d e) := by
  unfold Def.run
  rw [if_pos hl, h]
theorem and_next {c : Cfg} {a b : E} {es : Es} {e e1 : Env} {t : T} {r : R T} (hr : isRd a = none) (h : ev c a e = .ok t e1) (ht : tru t = some true) (h2 : evAnd c (.cons b es) e1 = r) : evAnd c (.cons a (.cons b es)) e = r := by
  show ((strong (isRd a) (ev c a) e).bind fun t e => match tru t with
      | some true => evAnd c (.cons b es) e
      | some false => R.ok t e
      | none => R.no) = _
  rw [hr]
  show ((ev c a e).bind _) = _
  rw [h]
  show (match tru t with
      | some true => evAnd c (.cons b es) e1
      | some false => R.ok t e1
      | none => R.no) = _
  rw [ht]
  exact h2
theorem and_last {c : Cfg} {a : E} {e : Env} {r : R T} (hr : isRd a = none) (h : ev c a e = r) : evAnd c (.cons a .nil) e = r := by
  show strong (isRd a) (ev c a) e = _
  rw [hr]
  exact h
theorem or_next {c : Cfg} {a b : E} {es : Es} {e e1 : Env} {t : T} {r : R T} (hr : isRd a = none) (h : ev c a e = .ok t e1) (ht : tru t = some false) (h2 : evOr c (.cons b es) e1 = r) : evOr c (.cons a (.cons b es)) e = r := by
  show ((strong (isRd a) (ev c a) e).bind fun t e => match tru t with
      | some true => R.ok t e
      | some false => evOr c (.cons b es) e
      | none => .no) = _
  rw [hr]
  show ((ev c a e).bind _) = _
  rw [h]
  show (match tru t with
      | some true => R.ok t e1
      | some false => evOr c (.cons b es) e1
      | none => R.no) = _
  rw [ht]
  exact h2
theorem or_last {c : Cfg} {a : E} {e : Env} {r : R T} (hr : isRd a = none) (h : ev c a e = r) : evOr c (.cons a .nil) e = r := by
  show strong (isRd a) (ev c a) e = _
  rw [hr]
  exact h
theorem ret_of {c : Cfg} {a : E} {e e1 : Env} {t : T} (hr : isRd a = none) (h : ev c a e = .ok t e1) : ex c (.ret a) e = .ok (.ret t) e1 := by
  show ((strong (isRd a) (ev c a) e).bind fun t e => R.ok (Fl.ret t) e) = _
  rw [hr]
  show ((ev c a e).bind fun t e => R.ok (Fl.ret t) e) = _
  rw [h]
  rfl
theorem exp_of {c : Cfg} {a : E} {e e1 : Env} {t : T} (hr : isRd a = none) (h : ev c a e = .ok t e1) : ex c (.exp a) e = .ok .nx e1 := by
  show ((strong (isRd a) (ev c a) e).bind fun _ e => R.ok Fl.nx e) = _
  rw [hr]
  show ((ev c a e).bind fun _ e => R.ok Fl.nx e) = _
  rw [h]
  rfl
theorem all_of {c : Cfg} {a : E} {e e1 : Env} {bs : List Bool} {o : Bool} (hr : isRd a = none) (h : ev c a e = .ok (.lst o (bs.map .bl)) e1) (hb : bls? (bs.map .bl) = some bs) : ev c (.b1 .all a) e = .ok (.bl (bs.all id)) e1 := by
  show ((opd (isRd a) (ev c a) e).bind fun o e => fin1 o (b1T .all) e) = _
  rw [hr]
  show (((ev c a e).bind fun t e => R.ok (O.v t) e).bind fun o e => fin1 o (b1T .all) e) = _
  rw [h]
  show need ((bls? (bs.map .bl)).map fun bs => T.bl (bs.all id)) e1 = _
  rw [hb]
  rfl
theorem fm_true {α : Type} : ∀ l : List α, (l.filterMap fun _ => some (T.bl true)) = (l.map fun _ => true).map .bl
  | [] => rfl
  | a :: l => by rw [List.filterMap_cons]; simp only [List.map_cons]; rw [fm_true l]
/-! ### two clauses -/
theorem turns2_fm {own : List Nat} {body : T → List T → M (List T)} {g : T → List T} : ∀ (l : List T) (acc : List T) (e : Env), (∀ x ∈ l, ∀ acc : List T, acc.length + (g x).length ≤ line → ∃ e1, body x acc (wipe e own) = .ok (acc ++ g x) e1 ∧ wipe e1 own = wipe e own) → acc.length + (l.flatMap g).length ≤ line →
    ∃ e1, turns2 own body l acc e = .ok (acc ++ l.flatMap g) e1 ∧ wipe e1 own = wipe e own
  | [], acc, e, _, _ => ⟨e, by simp [turns2], rfl⟩
  | x :: r, acc, e, h, hl => by
    rw [List.flatMap_cons, List.length_append] at hl
    obtain ⟨e1, h1, h2⟩ := h x List.mem_cons_self acc (by omega)
    obtain ⟨e3, h3, h4⟩ := turns2_fm r (acc ++ g x) e1 (fun y hy a ha => by
      rw [h2]
      exact h y (List.mem_cons_of_mem _ hy) a ha) (by rw [List.length_append]; omega)
    refine ⟨e3, ?_, h4.trans h2⟩
    show ((body x acc (wipe e own)).bind fun acc e => turns2 own body r acc e) = _
    rw [h1]
    show turns2 own body r (acc ++ g x) e1 = _
    rw [h3, List.flatMap_cons, List.append_assoc]
theorem ev_lc2g {c : Cfg} {elt : E} {tg tg2 : Tg} {it it2 : It} {ifs ifs2 : Es} {own own2 : List Nat} {e e0 : Env} {l : List T} (g : T → List T) (hi : evi c it e = .ok l e0) (hp : (plainAt e0 own && tgIn tg own && tgIn tg2 own2 && own2.all own.contains) = true) (hl : (l.flatMap g).length ≤ line)
    (hb : ∀ x ∈ l, ∀ acc : List T, acc.length + (g x).length ≤ line → ∃ e1, ((asg tg x (wipe e0 own)).bind fun _ e => (evT c ifs e).bind fun b e => if b then (evi c it2 e).bind fun l2 e => turns own2 (fun x e => (asg tg2 x e).bind fun _ e => (evT c ifs2 e).bind fun b e =>
        if b then (strong (isRd elt) (ev c elt) e).bind fun t e => .ok (some (fz t)) e else .ok none e) l2 acc e else .ok acc e) = .ok (acc ++ g x) e1 ∧ wipe e1 own = wipe e0 own) : ev c (.lc2 elt tg it ifs tg2 it2 ifs2 own own2) e = .ok (.lst true (l.flatMap g)) e0 := by
  obtain ⟨e1, h1, h2⟩ := turns2_fm (own := own) (g := g) (body := fun x acc e => (asg tg x e).bind fun _ e => (evT c ifs e).bind fun b e => if b then (evi c it2 e).bind fun l2 e => turns own2 (fun x e => (asg tg2 x e).bind fun _ e => (evT c ifs2 e).bind fun b e =>
        if b then (strong (isRd elt) (ev c elt) e).bind fun t e => .ok (some (fz t)) e else .ok none e) l2 acc e else .ok acc e) l [] e0 hb (by simpa using hl)
  show ((evi c it e).bind fun l e0 => if (plainAt e0 own && tgIn tg own && tgIn tg2 own2 && own2.all own.contains) = true then noEx ((turns2 own (fun x acc e => (asg tg x e).bind fun _ e => (evT c ifs e).bind fun b e => if b then (evi c it2 e).bind fun l2 e => turns own2 (fun x e => (asg tg2 x e).bind fun _ e => (evT c ifs2 e).bind fun b e =>
        if b then (strong (isRd elt) (ev c elt) e).bind fun t e => .ok (some (fz t)) e else .ok none e) l2 acc e else .ok acc e) l [] e0).bind fun acc e => R.ok (T.lst true acc) (back e0 e own)) else .no) = _
  rw [hi]
  show (if (plainAt e0 own && tgIn tg own && tgIn tg2 own2 && own2.all own.contains) = true then noEx ((turns2 own (fun x acc e => (asg tg x e).bind fun _ e => (evT c ifs e).bind fun b e => if b then (evi c it2 e).bind fun l2 e => turns own2 (fun x e => (asg tg2 x e).bind fun _ e => (evT c ifs2 e).bind fun b e =>
        if b then (strong (isRd elt) (ev c elt) e).bind fun t e => .ok (some (fz t)) e else .ok none e) l2 acc e else .ok acc e) l [] e0).bind fun acc e' => R.ok (T.lst true acc) (back e0 e' own)) else .no) = _
  rw [hp, h1]
  show R.ok (T.lst true _) (back e0 e1 own) = _
  rw [back_of h2]
  simp
theorem evi_rng2 {c : Cfg} {a b : E} {e e1 e2 : Env} {t u : T} {l : List T} (hr : isRd a = none) (hr2 : isRd b = none) (h : ev c a e = .ok t e1) (h2 : ev c b e1 = .ok u e2) (hl : rngT t u = some l) : evi c (.rng2 a b) e = .ok l e2 := by
  show (strong (isRd a) (ev c a) e).bind (fun t e => (strong (isRd b) (ev c b) e).bind fun u e => need (rngT t u) e) = _
  rw [hr, hr2]
  show (ev c a e).bind (fun t e => (ev c b e).bind fun u e => need (rngT t u) e) = _
  rw [h]
  show (ev c b e1).bind (fun u e => need (rngT t u) e) = _
  rw [h2]
  show need (rngT t u) e2 = _
  rw [hl]
  rfl
theorem rngT_ok {a b : Int} (h : small62 a = true) (h2 : small62 b = true) : rngT (.int a) (.int b) = some (upto a b) := by
  show (if (small62 a && small62 b) = true then some (upto a b) else none) = _
  rw [h, h2]; rfl
/-- a comprehension that draws: values and the state behind them -/
def runF {σ : Type} (g : T → σ → T) (st : T → σ → σ) (l : List T) (s : σ) : List T × σ := l.foldl (fun (p : List T × σ) x => (p.1 ++ [g x p.2], st x p.2)) ([], s)
theorem ev_lcf {c : Cfg} {elt : E} {tg : Tg} {it : It} {ifs : Es} {own : List Nat} {e e0 : Env} {l : List T} {σ : Type} (env : σ → Env) (g : T → σ → T) (st : T → σ → σ) (s : σ) (hi : evi c it e = .ok l e0) (he : e0 = env s) (hp : plainAt e0 own = true) (ht : tgIn tg own = true) (hl : l.length ≤ line)
    (hb : ∀ x ∈ l, ∀ s, ∃ e1, ((asg tg x (wipe (env s) own)).bind fun _ e => (evT c ifs e).bind fun b e => if b then (strong (isRd elt) (ev c elt) e).bind fun t e => .ok (some (fz t)) e else .ok none e) = .ok (some (g x s)) e1 ∧ wipe e1 own = wipe (env (st x s)) own) :
    ev c (.lc elt tg it ifs own) e = .ok (.lst true (runF g st l s).1) (back e0 (env (runF g st l s).2) own) := by
  obtain ⟨e1, h1, h2⟩ := turns_fold (own := own) (body := lcBody c tg ifs elt) env st g l [] s e0 (by rw [he]) hb (by simpa using hl)
  show ((evi c it e).bind fun l e0 => if (plainAt e0 own && tgIn tg own) = true then noEx ((turns own (lcBody c tg ifs elt) l [] e0).bind fun acc e => R.ok (T.lst true acc) (back e0 e own)) else .no) = _
  rw [hi]
  show (if (plainAt e0 own && tgIn tg own) = true then noEx ((turns own (lcBody c tg ifs elt) l [] e0).bind fun acc e' => R.ok (T.lst true acc) (back e0 e' own)) else .no) = _
  rw [hp, ht, h1]
  show R.ok (T.lst true ([] ++ (runF g st l s).1)) (back e0 e1 own) = _
  have h2 : wipe e1 own = wipe (env (runF g st l s).2) own := h2
  rw [← back_wipe e0 e1, h2, back_wipe]
  simp
end Vi

set_option autoImplicit false
set_option Elab.async false
set_option linter.all false
set_option maxRecDepth 100000
/-! VI: what a result has (Pt, Pc), step by step. -/
namespace Vi
/- The continuation stands first, and the type of what is reckoned leans on it: so simp never looks into a continuation ahead of its time. -/
abbrev Rq {α : Type} (_ : α → Env → Prop) : Type := R α
abbrev Cq (_ : T → Env → Prop) : Type := CR
abbrev Bq (_ _ : Prop) : Type := Bool
abbrev Oq {α : Type} (_ : α → Prop) : Type := Option α
def Pt {α : Type} (Q : α → Env → Prop) (r : Rq Q) : Prop := match (r : R α) with
  | .ok a e => Q a e
  | _ => False
def Pc (Q : T → Env → Prop) (r : Cq Q) : Prop := match (r : CR) with
  | .ret t o => Q t o
  | _ => False
def Br (A B : Prop) (b : Bq A B) : Prop := match (b : Bool) with
  | true => A
  | false => B
def Oa {α : Type} (Q : α → Prop) (o : Oq Q) : Prop := match (o : Option α) with
  | some a => Q a
  | none => False
theorem Br_t (A B : Prop) : Br A B true = A := rfl
theorem Br_f (A B : Prop) : Br A B false = B := rfl
theorem Br_i {b : Bool} {A B : Prop} (h1 : b = true → A) (h2 : b = false → B) : Br A B b := by
  cases b
  · exact h2 rfl
  · exact h1 rfl
theorem Oa_s {α : Type} (a : α) (Q : α → Prop) : Oa Q (some a) = Q a := rfl
theorem Oa_n {α : Type} (Q : α → Prop) : Oa Q none = False := rfl
theorem Pt_ok {α : Type} (a : α) (e : Env) (Q : α → Env → Prop) : Pt Q (.ok a e) = Q a e := rfl
theorem Pt_no {α : Type} (Q : α → Env → Prop) : Pt Q (.no) = False := rfl
theorem Pc_ret (t : T) (o : Env) (Q : T → Env → Prop) : Pc Q (.ret t o) = Q t o := rfl
theorem Pt_bind {α β : Type} (r : R α) (f : α → Env → R β) (Q : β → Env → Prop) : Pt Q (r.bind f) = Pt (fun a e => Pt Q (f a e)) r := by
  cases r <;> rfl
theorem Pt_mono {α : Type} {r : R α} {Q Q' : α → Env → Prop} (h : Pt Q r) (k : ∀ a e, Q a e → Q' a e) : Pt Q' r := by
  cases r with
  | ok a e => exact k a e h
  | _ => exact h
theorem Pc_mono {r : CR} {Q Q' : T → Env → Prop} (h : Pc Q r) (k : ∀ t o, Q t o → Q' t o) : Pc Q' r := by
  cases r with
  | ret t o => exact k t o h
  | _ => exact h
theorem Pt_elim {α : Type} {r : R α} {Q : α → Env → Prop} (h : Pt Q r) : ∃ a e, r = .ok a e ∧ Q a e := by
  cases r with
  | ok a e => exact ⟨a, e, rfl, h⟩
  | _ => exact h.elim
theorem Pc_elim {r : CR} {Q : T → Env → Prop} (h : Pc Q r) : ∃ t o, r = .ret t o ∧ Q t o := by
  cases r with
  | ret t o => exact ⟨t, o, rfl, h⟩
  | _ => exact h.elim
theorem Pt_need {α : Type} (o : Option α) (e : Env) (Q : α → Env → Prop) : Pt Q (need o e) = Oa (fun a => Q a e) o := by
  cases o <;> rfl
/-- an operand that is no variable -/
theorem strong_none (m : M T) : strong none m = m := rfl
theorem opd_none (m : M T) (e : Env) (Q : O → Env → Prop) : Pt Q (opd none m e) = Pt (fun t e => Q (.v t) e) (m e) := by
  show Pt Q ((m e).bind fun t e => .ok (.v t) e) = _
  rw [Pt_bind]; rfl
theorem opd_some (i : Nat) (m : M T) (e : Env) (Q : O → Env → Prop) : Pt Q (opd (some i) m e) = Oa (fun _ => Q (.r i) e) ((e[i]?).bind id) := by
  unfold opd
  show Pt Q (match (e[i]?).bind id with
    | some _ => .ok (.r i) e
    | none => .no) = _
  cases (e[i]?).bind id <;> rfl
theorem fin1_p (o : O) (f : T → Option T) (e : Env) (Q : T → Env → Prop) : Pt Q (fin1 o f e) = Oa (fun a => Oa (fun r => Q r e) (f a)) (o.get e) := by
  unfold fin1
  cases o.get e with
  | none => rfl
  | some a => exact Pt_need _ _ _
theorem fin2_p (o p : O) (f : T → T → Option T) (e : Env) (Q : T → Env → Prop) : Pt Q (fin2 o p f e) = Oa (fun a => Oa (fun b => Oa (fun r => Q r e) (f a b)) (p.get e)) (o.get e) := by
  unfold fin2
  cases o.get e with
  | none => rfl
  | some a =>
    cases p.get e with
    | none => rfl
    | some b => exact Pt_need _ _ _
theorem getVar_p (i : Nat) (e : Env) (Q : T → Env → Prop) : Pt Q (getVar i e) = Oa (fun t => Br (Q (fz t) (e.set i (some (fz t)))) (Q t e) (own t)) ((e[i]?).bind id) := by
  unfold getVar
  cases (e[i]?).bind id with
  | none => rfl
  | some t => cases h : own t <;> simp [Oa_s, h, Br_t, Br_f, Pt_ok]
theorem testM_p (r : Option Nat) (m : M T) (e : Env) (Q : Bool → Env → Prop) : Pt Q (testM r m e) = Pt (fun o e => Oa (fun t => Oa (fun b => Q b e) (tru t)) (o.get e)) (opd r m e) := by
  unfold testM
  rw [Pt_bind]
  cases opd r m e with
  | ok o e1 =>
    rw [Pt_ok, Pt_ok]
    cases o.get e1 with
    | none => rfl
    | some t => exact Pt_need _ _ _
  | _ => rfl
theorem cast_bind {α : Type} (m : R α) (f : α → Env → R T) (Q : T → Env → Prop) : Pt Q (m.bind f) = Pt (fun a e => Pt Q (f a e)) m := Pt_bind m f Q
theorem Oa_map {α β : Type} (o : Option α) (f : α → β) (Q : β → Prop) : Oa Q (o.map f) = Oa (fun a => Q (f a)) o := by cases o <;> rfl
theorem Oa_bind {α β : Type} (o : Option α) (f : α → Option β) (Q : β → Prop) : Oa Q (o.bind f) = Oa (fun a => Oa Q (f a)) o := by cases o <;> rfl
theorem setVar_p (i : Nat) (t : T) (e : Env) (Q : Unit → Env → Prop) : Pt Q (setVar i t e) = Br (Q () (e.set i (some t))) False (decide (i < e.length)) := by
  unfold setVar
  by_cases h : i < e.length
  · rw [if_pos h, decide_eq_true h]; rfl
  · rw [if_neg h, decide_eq_false h]; rfl
theorem asg_nm (i : Nat) (t : T) (e : Env) (Q : Unit → Env → Prop) : Pt Q (asg (.nm i) t e) = Pt Q (setVar i t e) := rfl
theorem asg_tp (ts : Tgs) (t : T) (e : Env) (Q : Unit → Env → Prop) : Pt Q (asg (.tp ts) t e) = Oa (fun l => Pt Q (asgs ts l e)) (tup? t) := by
  cases t <;> rfl
theorem asgs_nil (e : Env) (Q : Unit → Env → Prop) : Pt Q (asgs .nil [] e) = Q () e := rfl
theorem asgs_cons (t : Tg) (ts : Tgs) (a : T) (l : List T) (e : Env) (Q : Unit → Env → Prop) : Pt Q (asgs (.cons t ts) (a :: l) e) = Pt (fun _ e => Pt Q (asgs ts l e)) (asg t a e) := by
  show Pt Q ((asg t a e).bind fun _ e => asgs ts l e) = _
  rw [Pt_bind]
theorem par_nil (e : Env) (Q : Unit → Env → Prop) : Pt Q (parM [] [] e) = Q () e := rfl
theorem par_cons (i : Nat) (is : List Nat) (t : T) (l : List T) (e : Env) (Q : Unit → Env → Prop) : Pt Q (parM (i :: is) (t :: l) e) = Pt (fun _ e => Pt Q (parM is l e)) (setVar i t e) := by
  show Pt Q ((setVar i t e).bind fun _ e => parM is l e) = _
  rw [Pt_bind]
section
variable (c : Cfg)
theorem var_p (i : Nat) (e : Env) (Q : T → Env → Prop) : Pt Q (ev c (.var i) e) = Oa (fun t => Br (Q (fz t) (e.set i (some (fz t)))) (Q t e) (own t)) ((e[i]?).bind id) := getVar_p i e Q
theorem cst_p (t : T) (e : Env) (Q : T → Env → Prop) : Pt Q (ev c (.cst t) e) = Q t e := rfl
theorem glo_p (g : Nat) (e : Env) (Q : T → Env → Prop) : Pt Q (ev c (.glo g) e) = Oa (fun t => Q t e) (c.glos[g]?) := Pt_need _ _ _
theorem tup_p (es : Es) (e : Env) (Q : T → Env → Prop) : Pt Q (ev c (.tup es) e) = Pt (fun l e => Q (.tup l) e) (evs c es e) := by
  rw [ev_tup, Pt_bind]; rfl
theorem lst_p (es : Es) (e : Env) (Q : T → Env → Prop) : Pt Q (ev c (.lst es) e) = Pt (fun l e => Q (.lst true l) e) (evs c es e) := by
  rw [ev_lst, Pt_bind]; rfl
theorem dct_p (es : Es) (e : Env) (Q : T → Env → Prop) : Pt Q (ev c (.dct es) e) = Pt (fun l e => Q (.dic true l) e) (evp c es [] e) := by
  rw [ev_dct, Pt_bind]; rfl
theorem bin_p (op : Bop) (a b : E) (e : Env) (Q : T → Env → Prop) : Pt Q (ev c (.bin op a b) e) = Pt (fun o e => Pt (fun p e => Oa (fun x => Oa (fun y => Oa (fun r => Q r e) (binT op x y)) (p.get e)) (o.get e)) (opd (isRd b) (ev c b) e)) (opd (isRd a) (ev c a) e) := by
  rw [ev_bin, Pt_bind]
  congr 1
  funext o e
  rw [Pt_bind]
  congr 1
  funext p e
  exact fin2_p _ _ _ _ _
theorem neg_p (a : E) (e : Env) (Q : T → Env → Prop) : Pt Q (ev c (.neg a) e) = Pt (fun o e => Oa (fun x => Oa (fun r => Q r e) (negT x)) (o.get e)) (opd (isRd a) (ev c a) e) := by
  rw [ev_neg, Pt_bind]
  congr 1
  funext o e
  exact fin1_p _ _ _ _
theorem cmp_p (op : Cop) (a b : E) (e : Env) (Q : T → Env → Prop) : Pt Q (ev c (.cmp op a b) e) = Pt (fun o e => Pt (fun p e => Oa (fun x => Oa (fun y => Oa (fun r => Q (.bl r) e) (cmpT op x y)) (p.get e)) (o.get e)) (opd (isRd b) (ev c b) e)) (opd (isRd a) (ev c a) e) := by
  rw [ev_cmp, Pt_bind]
  congr 1
  funext o e
  rw [Pt_bind]
  congr 1
  funext p e
  rw [fin2_p]
  congr 1
  funext x
  congr 1
  funext y
  rw [Oa_map]
theorem isN_p (a : E) (e : Env) (Q : T → Env → Prop) : Pt Q (ev c (.isN a) e) = Pt (fun o e => Oa (fun x => Oa (fun r => Q r e) (isNf true x)) (o.get e)) (opd (isRd a) (ev c a) e) := by
  rw [ev_isN, Pt_bind]
  congr 1
  funext o e
  exact fin1_p _ _ _ _
theorem notN_p (a : E) (e : Env) (Q : T → Env → Prop) : Pt Q (ev c (.notN a) e) = Pt (fun o e => Oa (fun x => Oa (fun r => Q r e) (isNf false x)) (o.get e)) (opd (isRd a) (ev c a) e) := by
  rw [ev_notN, Pt_bind]
  congr 1
  funext o e
  exact fin1_p _ _ _ _
theorem not_p (a : E) (e : Env) (Q : T → Env → Prop) : Pt Q (ev c (.not a) e) = Pt (fun o e => Oa (fun x => Oa (fun b => Q (.bl (!b)) e) (tru x)) (o.get e)) (opd (isRd a) (ev c a) e) := by
  rw [ev_not, Pt_bind]
  congr 1
  funext o e
  rw [fin1_p]
  congr 1
  funext x
  rw [Oa_map]
theorem idx_p (a b : E) (e : Env) (Q : T → Env → Prop) : Pt Q (ev c (.idx a b) e) = Pt (fun o e => Pt (fun p e => Oa (fun x => Oa (fun y => Oa (fun r => Q r e) (idxT x y)) (p.get e)) (o.get e)) (opd (isRd b) (ev c b) e)) (opd (isRd a) (ev c a) e) := by
  rw [ev_idx, Pt_bind]
  congr 1
  funext o e
  rw [Pt_bind]
  congr 1
  funext p e
  exact fin2_p _ _ _ _ _
theorem sli_p (a : E) (lo hi : Eo) (e : Env) (Q : T → Env → Prop) : Pt Q (ev c (.sli a lo hi) e) = Pt (fun o e => Pt (fun l e => Pt (fun h e => Oa (fun x => Oa (fun r => Q r e) (sliT x l h)) (o.get e)) (evo c hi e)) (evo c lo e)) (opd (isRd a) (ev c a) e) := by
  rw [ev_sli, Pt_bind]
  congr 1
  funext o e
  rw [Pt_bind]
  congr 1
  funext l e
  rw [Pt_bind]
  congr 1
  funext h e
  exact fin1_p _ _ _ _
theorem b1_p (f : B1) (a : E) (e : Env) (Q : T → Env → Prop) : Pt Q (ev c (.b1 f a) e) = Pt (fun o e => Oa (fun x => Oa (fun r => Q r e) (b1T f x)) (o.get e)) (opd (isRd a) (ev c a) e) := by
  rw [ev_b1, Pt_bind]
  congr 1
  funext o e
  exact fin1_p _ _ _ _
theorem b2_p (f : B2) (a b : E) (e : Env) (Q : T → Env → Prop) : Pt Q (ev c (.b2 f a b) e) = Pt (fun o e => Pt (fun p e => Oa (fun x => Oa (fun y => Oa (fun r => Q r e) (b2T f x y)) (p.get e)) (o.get e)) (opd (isRd b) (ev c b) e)) (opd (isRd a) (ev c a) e) := by
  rw [ev_b2, Pt_bind]
  congr 1
  funext o e
  rw [Pt_bind]
  congr 1
  funext p e
  exact fin2_p _ _ _ _ _
def str? : T → Option (List Nat)
  | .str s => some s
  | _ => none
theorem mt_p (f : Mt) (a b : E) (e : Env) (Q : T → Env → Prop) : Pt Q (ev c (.mt f a b) e) = Pt (fun t e => Oa (fun s => Pt (fun p e => Oa (fun y => Oa (fun r => Q r e) (mtT f s y)) (p.get e)) (opd (isRd b) (ev c b) e)) (str? t)) (strong (isRd a) (ev c a) e) := by
  rw [ev_mt, Pt_bind]
  congr 1
  funext t e
  cases t with
  | str s =>
    show Pt Q ((opd (isRd b) (ev c b) e).bind fun p e => fin1 p (mtT f s) e) = _
    rw [Pt_bind]
    show _ = Pt _ (opd (isRd b) (ev c b) e)
    congr 1
    funext o e
    exact fin1_p _ _ _ _
  | _ => rfl
theorem isi_p (ty : Ty) (a : E) (e : Env) (Q : T → Env → Prop) : Pt Q (ev c (.isi ty a) e) = Pt (fun o e => Oa (fun x => Oa (fun b => Q (.bl b) e) (isiT ty x)) (o.get e)) (opd (isRd a) (ev c a) e) := by
  rw [ev_isi, Pt_bind]
  congr 1
  funext o e
  rw [fin1_p]
  congr 1
  funext x
  rw [Oa_map]
theorem and0_p (es : Es) (e : Env) (Q : T → Env → Prop) : Pt Q (ev c (.and es) e) = Pt Q (evAnd c es e) := rfl
theorem or0_p (es : Es) (e : Env) (Q : T → Env → Prop) : Pt Q (ev c (.or es) e) = Pt Q (evOr c es e) := rfl
theorem asg_p (i : Nat) (a : E) (e : Env) (Q : Fl → Env → Prop) : Pt Q (ex c (.asg i a) e) = Pt (fun t e => Pt (fun _ e => Q .nx e) (setVar i t e)) (strong (isRd a) (ev c a) e) := by
  rw [ex_asg, Pt_bind]
  congr 1
  funext t e
  rw [Pt_bind]; rfl
theorem asgT_p (tg : Tg) (a : E) (e : Env) (Q : Fl → Env → Prop) : Pt Q (ex c (.asgT tg a) e) = Pt (fun t e => Pt (fun _ e => Q .nx e) (asg tg (fz t) e)) (strong (isRd a) (ev c a) e) := by
  rw [ex_asgT, Pt_bind]
  congr 1
  funext t e
  rw [Pt_bind]; rfl
theorem par_p (is : List Nat) (es : Es) (e : Env) (Q : Fl → Env → Prop) : Pt Q (ex c (.par is es) e) = Pt (fun l e => Pt (fun _ e => Q .nx e) (parM is l e)) (evk c es e) := by
  rw [ex_par, Pt_bind]
  congr 1
  funext t e
  rw [Pt_bind]; rfl
theorem for_p (tg : Tg) (it : It) (b : Ss) (e : Env) (Q : Fl → Env → Prop) : Pt Q (ex c (.for tg it b) e) = Pt (fun l e => Pt Q (forL (asg tg) (exs c b) l e)) (evi c it e) := by
  rw [ex_for, Pt_bind]
theorem pass_p (e : Env) (Q : Fl → Env → Prop) : Pt Q (ex c .pass e) = Q .nx e := rfl
theorem cnt_p (e : Env) (Q : Fl → Env → Prop) : Pt Q (ex c .cnt e) = Q .cnt e := rfl
theorem brk_p (e : Env) (Q : Fl → Env → Prop) : Pt Q (ex c .brk e) = Q .brk e := rfl
theorem retN_p (e : Env) (Q : Fl → Env → Prop) : Pt Q (ex c .retN e) = Q (.ret .non) e := rfl
theorem nil_p (e : Env) (Q : Fl → Env → Prop) : Pt Q (exs c .nil e) = Q .nx e := rfl
theorem evs_n (e : Env) (Q : List T → Env → Prop) : Pt Q (evs c .nil e) = Q [] e := rfl
theorem evs_c (a : E) (es : Es) (e : Env) (Q : List T → Env → Prop) : Pt Q (evs c (.cons a es) e) = Pt (fun t e => Pt (fun l e => Q (fz t :: l) e) (evs c es e)) (strong (isRd a) (ev c a) e) := by
  show Pt Q ((strong (isRd a) (ev c a) e).bind fun t e => (evs c es e).bind fun l e => .ok (fz t :: l) e) = _
  rw [Pt_bind]
  congr 1
  funext t e
  rw [Pt_bind]; rfl
theorem evk_n (e : Env) (Q : List T → Env → Prop) : Pt Q (evk c .nil e) = Q [] e := rfl
theorem evk_c (a : E) (es : Es) (e : Env) (Q : List T → Env → Prop) : Pt Q (evk c (.cons a es) e) = Pt (fun t e => Pt (fun l e => Q (t :: l) e) (evk c es e)) (strong (isRd a) (ev c a) e) := by
  show Pt Q ((strong (isRd a) (ev c a) e).bind fun t e => (evk c es e).bind fun l e => .ok (t :: l) e) = _
  rw [Pt_bind]
  congr 1
  funext t e
  rw [Pt_bind]; rfl
theorem eva_n (e : Env) (Q : List (T ⊕ Nat) → Env → Prop) : Pt Q (eva c .nil e) = Q [] e := rfl
theorem eva_v (a : E) (as : As) (e : Env) (Q : List (T ⊕ Nat) → Env → Prop) : Pt Q (eva c (.val a as) e) = Pt (fun t e => Pt (fun l e => Q (.inl (fz t) :: l) e) (eva c as e)) (strong (isRd a) (ev c a) e) := by
  show Pt Q ((strong (isRd a) (ev c a) e).bind fun t e => (eva c as e).bind fun l e => .ok (.inl (fz t) :: l) e) = _
  rw [Pt_bind]
  congr 1
  funext t e
  rw [Pt_bind]; rfl
theorem eva_t (a : E) (as : As) (e : Env) (Q : List (T ⊕ Nat) → Env → Prop) : Pt Q (eva c (.tmp a as) e) = Pt (fun t e => Pt (fun l e => Q (.inl t :: l) e) (eva c as e)) (strong (isRd a) (ev c a) e) := by
  show Pt Q ((strong (isRd a) (ev c a) e).bind fun t e => (eva c as e).bind fun l e => .ok (.inl t :: l) e) = _
  rw [Pt_bind]
  congr 1
  funext t e
  rw [Pt_bind]; rfl
theorem evp_n (acc : List (T × T)) (e : Env) (Q : List (T × T) → Env → Prop) : Pt Q (evp c .nil acc e) = Q acc e := rfl
theorem evp_c (k v : E) (r : Es) (acc : List (T × T)) (e : Env) (Q : List (T × T) → Env → Prop) : Pt Q (evp c (.cons k (.cons v r)) acc e) = Pt (fun t e => Pt (fun u e => Br (Pt Q (evp c r (dput acc (fz t) (fz u)) e)) False (kind? (fz t) == some false)) (strong (isRd v) (ev c v) e)) (strong (isRd k) (ev c k) e) := by
  show Pt Q ((strong (isRd k) (ev c k) e).bind fun t e => (strong (isRd v) (ev c v) e).bind fun u e => if kind? (fz t) == some false then evp c r (dput acc (fz t) (fz u)) e else .no) = _
  rw [Pt_bind]
  congr 1
  funext t e
  rw [Pt_bind]
  congr 1
  funext u e
  cases (kind? (fz t) == some false) <;> rfl
theorem evo_n (e : Env) (Q : Option Int → Env → Prop) : Pt Q (evo c .non e) = Q none e := rfl
def int? : T → Option Int
  | .int i => some i
  | _ => none
theorem evo_s (a : E) (e : Env) (Q : Option Int → Env → Prop) : Pt Q (evo c (.som a) e) = Pt (fun t e => Oa (fun i => Q (some i) e) (int? t)) (strong (isRd a) (ev c a) e) := by
  show Pt Q ((strong (isRd a) (ev c a) e).bind fun t e => match t with
    | .int i => .ok (some i) e
    | _ => .no) = _
  rw [Pt_bind]
  congr 1
  funext t e
  cases t <;> rfl
theorem of_p (a : E) (e : Env) (Q : List T → Env → Prop) : Pt Q (evi c (.of a) e) = Pt (fun t e => Oa (fun l => Q l e) (walk? (fz t))) (strong (isRd a) (ev c a) e) := by
  show Pt Q ((strong (isRd a) (ev c a) e).bind fun t e => need (walk? (fz t)) e) = _
  rw [Pt_bind]
  congr 1
  funext t e
  exact Pt_need _ _ _
theorem rng_p (a : E) (e : Env) (Q : List T → Env → Prop) : Pt Q (evi c (.rng a) e) = Pt (fun t e => Oa (fun l => Q l e) (rngT (.int 0) t)) (strong (isRd a) (ev c a) e) := by
  show Pt Q ((strong (isRd a) (ev c a) e).bind fun t e => need (rngT (.int 0) t) e) = _
  rw [Pt_bind]
  congr 1
  funext t e
  exact Pt_need _ _ _
theorem rng2_p (a b : E) (e : Env) (Q : List T → Env → Prop) : Pt Q (evi c (.rng2 a b) e) = Pt (fun t e => Pt (fun u e => Oa (fun l => Q l e) (rngT t u)) (strong (isRd b) (ev c b) e)) (strong (isRd a) (ev c a) e) := by
  show Pt Q ((strong (isRd a) (ev c a) e).bind fun t e => (strong (isRd b) (ev c b) e).bind fun u e => need (rngT t u) e) = _
  rw [Pt_bind]
  congr 1
  funext t e
  rw [Pt_bind]
  congr 1
  funext u e
  exact Pt_need _ _ _
theorem enu_p (a : E) (e : Env) (Q : List T → Env → Prop) : Pt Q (evi c (.enu a) e) = Pt (fun t e => Oa (fun l => Q (enumT 0 l) e) (tup? (fz t))) (strong (isRd a) (ev c a) e) := by
  show Pt Q ((strong (isRd a) (ev c a) e).bind fun t e => need ((tup? (fz t)).map (enumT 0)) e) = _
  rw [Pt_bind]
  congr 1
  funext t e
  rw [Pt_need, Oa_map]
def oInt (l : List T) (k z : T) : Option (List T) := match k with
  | .int i => setL l i (fz z)
  | _ => none
/-- var[k] = t, by what var holds -/
abbrev Eq' (_ : Env → Prop) : Type := Option T
def putQ (i : Nat) (k t : T) (e : Env) (Q : Env → Prop) (o : Eq' Q) : Prop := match (o : Option T) with
  | some (.lst true l) => Oa (fun l' => Q (e.set i (some (.lst true l')))) (oInt l k t)
  | some (.dic true l) => Br (Q (e.set i (some (.dic true (dput l k (fz t)))))) False (kindD l k && decide (l.length < line))
  | _ => False
theorem putQ_l (i : Nat) (k t : T) (e : Env) (Q : Env → Prop) (l : List T) : putQ i k t e Q (some (.lst true l)) = Oa (fun l' => Q (e.set i (some (.lst true l')))) (oInt l k t) := rfl
theorem putQ_d (i : Nat) (k t : T) (e : Env) (Q : Env → Prop) (l : List (T × T)) : putQ i k t e Q (some (.dic true l)) = Br (Q (e.set i (some (.dic true (dput l k (fz t)))))) False (kindD l k && decide (l.length < line)) := rfl
theorem putM1_p (i : Nat) (k t : T) (e : Env) (Q : Unit → Env → Prop) : Pt Q (putM1 i k t e) = putQ i k t e (Q ()) ((e[i]?).bind id) := by
  unfold putM1
  generalize (e[i]?).bind id = o
  cases o with
  | none => rfl
  | some v =>
    cases v with
    | lst o l =>
      cases o with
      | false => rfl
      | true =>
        cases k with
        | int z =>
          show Pt Q (match setL l z (fz t) with
              | some l' => .ok () (e.set i (some (.lst true l')))
              | none => .no) = Oa _ (setL l z (fz t))
          cases setL l z (fz t) <;> rfl
        | _ => rfl
    | dic o l =>
      cases o with
      | false => rfl
      | true =>
        show Pt Q (if kindD l k && decide (l.length < line) then .ok () (e.set i (some (.dic true (dput l k (fz t))))) else .no) = Br _ _ _
        cases (kindD l k && decide (l.length < line)) <;> rfl
    | _ => rfl
def ownL? : Option T → Option (List T)
  | some (.lst true l) => some l
  | _ => none
theorem appM_p (i : Nat) (t : T) (e : Env) (Q : Unit → Env → Prop) : Pt Q (appM i t e) = Oa (fun l => Br (Q () (e.set i (some (.lst true (l ++ [fz t]))))) False (decide (l.length < line))) (ownL? ((e[i]?).bind id)) := by
  unfold appM
  generalize (e[i]?).bind id = o
  cases o with
  | none => rfl
  | some v =>
    cases v with
    | lst o l =>
      cases o with
      | false => rfl
      | true =>
        show Pt Q (if l.length < line then .ok () (e.set i (some (.lst true (l ++ [fz t])))) else .no) = Br _ _ _
        by_cases h : l.length < line
        · rw [if_pos h, decide_eq_true h]; rfl
        · rw [if_neg h, decide_eq_false h]; rfl
    | _ => rfl
theorem ifs_p (q : E) (a b : Ss) (e : Env) (Q : Fl → Env → Prop) : Pt Q (ex c (.ifs q a b) e) = Pt (fun k e => Br (Pt Q (exs c a e)) (Pt Q (exs c b e)) k) (testM (isRd q) (ev c q) e) := by
  rw [ex_ifs, Pt_bind]
  congr 1
  funext k e
  cases k <;> rfl
theorem ite_p (q a b : E) (e : Env) (Q : T → Env → Prop) : Pt Q (ev c (.ite q a b) e) = Pt (fun k e => Br (Pt Q (strong (isRd a) (ev c a) e)) (Pt Q (strong (isRd b) (ev c b) e)) k) (testM (isRd q) (ev c q) e) := by
  rw [ev_ite, Pt_bind, testM_p]
  congr 1
  funext o e
  rw [Pt_bind, fin1_p]
  cases o.get e with
  | none => rfl
  | some t =>
    rw [Oa_s, Oa_s]
    cases tru t with
    | none => rfl
    | some b => cases b <;> rfl
theorem chn_p (o1 o2 : Cop) (a b d : E) (e : Env) (Q : T → Env → Prop) : Pt Q (ev c (.chn o1 o2 a b d) e) = Pt (fun o e => Pt (fun p e => Oa (fun x => Oa (fun y => Oa (fun k =>
    Br (Pt (fun q e => Pt Q (fin2 p q (fun x y => (cmpT o2 x y).map .bl) e)) (opd (isRd d) (ev c d) e)) (Q (.bl false) e) k) (cmpT o1 x y)) (p.get e)) (o.get e)) (opd (isRd b) (ev c b) e)) (opd (isRd a) (ev c a) e) := by
  rw [ev_chn, Pt_bind]
  congr 1
  funext o e
  rw [Pt_bind]
  congr 1
  funext p e
  rw [Pt_bind, fin2_p]
  cases o.get e with
  | none => rfl
  | some x =>
    rw [Oa_s, Oa_s]
    cases p.get e with
    | none => rfl
    | some y =>
      rw [Oa_s, Oa_s]
      cases cmpT o1 x y with
      | none => rfl
      | some k =>
        cases k
        · rfl
        · show Pt Q ((opd (isRd d) (ev c d) e).bind _) = _
          rw [Pt_bind]; rfl
theorem and1_p (a : E) (e : Env) (Q : T → Env → Prop) : Pt Q (evAnd c (.cons a .nil) e) = Pt Q (strong (isRd a) (ev c a) e) := rfl
theorem and_p (a b : E) (es : Es) (e : Env) (Q : T → Env → Prop) : Pt Q (evAnd c (.cons a (.cons b es)) e) = Pt (fun t e => Oa (fun k => Br (Pt Q (evAnd c (.cons b es) e)) (Q t e) k) (tru t)) (strong (isRd a) (ev c a) e) := by
  show Pt Q ((strong (isRd a) (ev c a) e).bind fun t e => match tru t with
      | some true => evAnd c (.cons b es) e
      | some false => .ok t e
      | none => .no) = _
  rw [Pt_bind]
  congr 1
  funext t e
  cases tru t with
  | none => rfl
  | some k => cases k <;> rfl
theorem or1_p (a : E) (e : Env) (Q : T → Env → Prop) : Pt Q (evOr c (.cons a .nil) e) = Pt Q (strong (isRd a) (ev c a) e) := rfl
theorem or_p (a b : E) (es : Es) (e : Env) (Q : T → Env → Prop) : Pt Q (evOr c (.cons a (.cons b es)) e) = Pt (fun t e => Oa (fun k => Br (Q t e) (Pt Q (evOr c (.cons b es) e)) k) (tru t)) (strong (isRd a) (ev c a) e) := by
  show Pt Q ((strong (isRd a) (ev c a) e).bind fun t e => match tru t with
      | some true => .ok t e
      | some false => evOr c (.cons b es) e
      | none => .no) = _
  rw [Pt_bind]
  congr 1
  funext t e
  cases tru t with
  | none => rfl
  | some k => cases k <;> rfl
theorem evT_nil (e : Env) (Q : Bool → Env → Prop) : Pt Q (evT c .nil e) = Q true e := rfl
theorem evT_p (a : E) (es : Es) (e : Env) (Q : Bool → Env → Prop) : Pt Q (evT c (.cons a es) e) = Pt (fun k e => Br (Pt Q (evT c es e)) (Q false e) k) (testM (isRd a) (ev c a) e) := by
  show Pt Q ((opd (isRd a) (ev c a) e).bind fun o e => (fin1 o (fun t => (tru t).map .bl) e).bind fun t e => match t with
    | .bl true => evT c es e
    | .bl false => .ok false e
    | _ => .no) = _
  rw [Pt_bind, testM_p]
  congr 1
  funext o e
  rw [Pt_bind, fin1_p]
  cases o.get e with
  | none => rfl
  | some t =>
    rw [Oa_s, Oa_s]
    cases tru t with
    | none => rfl
    | some b => cases b <;> rfl
theorem call_p (f : Nat) (as : As) (e : Env) (Q : T → Env → Prop) : Pt Q (ev c (.call f as) e) = Pt (fun l e => Oa (fun ts => Br (Pc (fun t o => Q t (outsIn l o e)) (c.call f ts)) False (nodupN (muts l))) (argsIn l e)) (eva c as e) := by
  rw [ev_call, Pt_bind]
  congr 1
  funext l e
  unfold callM
  cases argsIn l e with
  | none => rfl
  | some ts =>
    rw [Oa_s]
    cases h : nodupN (muts l) with
    | false => rfl
    | true =>
      rw [Br_t]
      show Pt Q (match c.call f ts with
        | .no => .no
        | .ret t outs => .ok t (outsIn l outs e)
        | .ex x d outs => .ex x d (outsIn l outs e)) = _
      cases c.call f ts <;> rfl
theorem eva_mut (i : Nat) (as : As) (e : Env) (Q : List (T ⊕ Nat) → Env → Prop) : Pt Q (eva c (.mut i as) e) = Oa (fun _ => Pt (fun l e => Q (.inr i :: l) e) (eva c as e)) ((e[i]?).bind id) := by
  show Pt Q (match (e[i]?).bind id with
    | some _ => (eva c as e).bind fun l e => .ok (.inr i :: l) e
    | none => .no) = _
  cases (e[i]?).bind id with
  | none => rfl
  | some t =>
    rw [Oa_s]
    show Pt Q ((eva c as e).bind fun l e => .ok (.inr i :: l) e) = _
    rw [Pt_bind]; rfl
theorem get_p (d k x : E) (e : Env) (Q : T → Env → Prop) : Pt Q (ev c (.get d k x) e) = Pt (fun o e => Oa (fun _ => Pt (fun p e => Pt (fun t e => Oa (fun a => Oa (fun b => Oa (fun r => Q r e) (getT a b (fz t))) (p.get e)) (o.get e)) (strong (isRd x) (ev c x) e)) (opd (isRd k) (ev c k) e)) ((o.get e).bind dic?)) (opd (isRd d) (ev c d) e) := by
  show Pt Q ((opd (isRd d) (ev c d) e).bind fun o e => (need ((o.get e).bind dic?) e).bind fun _ e => (opd (isRd k) (ev c k) e).bind fun p e => (strong (isRd x) (ev c x) e).bind fun t e => fin3 o p (.v (fz t)) getT e) = _
  rw [Pt_bind]
  congr 1
  funext o e
  rw [Pt_bind, Pt_need]
  congr 1
  funext _
  rw [Pt_bind]
  congr 1
  funext p e
  rw [Pt_bind]
  congr 1
  funext t e
  unfold fin3
  show Pt Q (match o.get e, p.get e, some (fz t) with
    | some a, some b, some c => need (getT a b c) e
    | _, _, _ => .no) = _
  cases o.get e with
  | none => rfl
  | some a =>
    cases p.get e with
    | none => rfl
    | some b => exact Pt_need _ _ _
theorem exs_p (s : S) (ss : Ss) (e : Env) (Q : Fl → Env → Prop) : Pt Q (exs c (.cons s ss) e) = Pt (fun f e => match f with
    | .nx => Pt Q (exs c ss e)
    | f => Q f e) (ex c s e) := by
  rw [exs_cons, Pt_bind]
  congr 1
  funext f e
  cases f <;> rfl
theorem ret_p (a : E) (e : Env) (Q : Fl → Env → Prop) : Pt Q (ex c (.ret a) e) = Pt (fun t e => Q (.ret t) e) (strong (isRd a) (ev c a) e) := by
  rw [ex_ret, Pt_bind]; rfl
theorem retv_p (i : Nat) (e : Env) (Q : Fl → Env → Prop) : Pt Q (ex c (.retv i) e) = Oa (fun t => Q (.ret t) (e.set i none)) ((e[i]?).bind id) := by
  rw [ex_retv]
  show Pt Q (match (e[i]?).bind id with
    | some t => .ok (.ret t) (e.set i none)
    | none => .no) = _
  cases (e[i]?).bind id <;> rfl
theorem exp_p (a : E) (e : Env) (Q : Fl → Env → Prop) : Pt Q (ex c (.exp a) e) = Pt (fun _ e => Q .nx e) (strong (isRd a) (ev c a) e) := by
  rw [ex_exp, Pt_bind]; rfl
theorem run_p (d : Def) (ts : List T) (Q : T → Env → Prop) : Pc Q (d.run c ts) = Br (Pt (fun f e => match f with
    | .ret t => Q t (outsOf d e)
    | .nx => Q .non (outsOf d e)
    | _ => False) (exs c d.body (ts.map some ++ List.replicate (d.ns.length - d.ps.length) none))) False (decide (ts.length = d.ps.length)) := by
  unfold Def.run
  by_cases h : ts.length = d.ps.length
  · rw [if_pos h, decide_eq_true h, Br_t]
    cases exs c d.body (ts.map some ++ List.replicate (d.ns.length - d.ps.length) none) with
    | ok f e => cases f <;> rfl
    | _ => rfl
  · rw [if_neg h, decide_eq_false h]; rfl
theorem put_p (i : Nat) (k a : E) (b : Bool) (e : Env) (Q : Fl → Env → Prop) : Pt Q (ex c (.put i k a b) e) = Pt (fun t e => Br (Pt (fun z e => Pt (fun _ e => Q .nx e) (putM1 i (fz z) (kept b t) e)) (strong (isRd k) (ev c k) e)) False (isOwnX e i)) (strong (isRd a) (ev c a) e) := by
  rw [ex_put, Pt_bind]
  congr 1
  funext t e
  cases h : isOwnX e i with
  | false => rfl
  | true =>
    rw [if_pos rfl, Br_t, Pt_bind]
    congr 1
    funext z e
    rw [Pt_bind]; rfl
theorem app_p (i : Nat) (a : E) (e : Env) (Q : Fl → Env → Prop) : Pt Q (ex c (.app i a) e) = Br (Pt (fun t e => Pt (fun _ e => Q .nx e) (appM i t e)) (strong (isRd a) (ev c a) e)) False (isOwnL e i) := by
  rw [ex_app]
  show Pt Q (if isOwnL e i = true then _ else _) = _
  cases h : isOwnL e i with
  | false => rfl
  | true =>
    rw [if_pos rfl, Br_t, Pt_bind]
    congr 1
    funext z e
    rw [Pt_bind]; rfl
end
/-- a loop: what holds ahead of each turn -/
theorem forL_p {tg : T → M Unit} {body : M Fl} {Q : Fl → Env → Prop} (I : List T → Env → Prop) : ∀ (l : List T) (e : Env), I l e → (∀ x r e, I (x :: r) e → Pt (fun _ e => Pt (fun f e => match f with
      | .nx => I r e
      | .cnt => I r e
      | .brk => Q .nx e
      | .ret t => Q (.ret t) e) (body e)) (tg x e)) → (∀ e, I [] e → Q .nx e) → Pt Q (forL tg body l e)
  | [], e, h, _, hq => hq e h
  | x :: r, e, h, hb, hq => by
    show Pt Q ((tg x e).bind fun _ e => (body e).bind fun f e => match f with
      | .nx => forL tg body r e
      | .cnt => forL tg body r e
      | .brk => .ok .nx e
      | .ret t => .ok (.ret t) e)
    rw [Pt_bind]
    refine Pt_mono (hb x r e h) fun _ e h => ?_
    rw [Pt_bind]
    refine Pt_mono h fun f e h => ?_
    cases f with
    | nx => exact forL_p I r e h hb hq
    | cnt => exact forL_p I r e h hb hq
    | brk => exact h
    | ret t => exact h
/-- the turns of a comprehension: what holds ahead of each turn -/
theorem turns_p {own : List Nat} {body : T → M (Option T)} {Q : List T → Env → Prop} (I : List T → List T → Env → Prop) : ∀ (l acc : List T) (e : Env), I l acc e → (∀ x r acc e, acc.length < line → I (x :: r) acc e → Pt (fun o e => match o with
      | some t => I r (acc ++ [t]) e
      | none => I r acc e) (body x (wipe e own))) → (∀ acc e, I [] acc e → Q acc e) → acc.length + l.length ≤ line → Pt Q (turns own body l acc e)
  | [], acc, e, h, _, hq, _ => hq acc e h
  | x :: r, acc, e, h, hb, hq, hl => by
    rw [List.length_cons] at hl
    show Pt Q ((body x (wipe e own)).bind fun o e => match o with
      | some t => if acc.length < line then turns own body r (acc ++ [t]) e else .no
      | none => turns own body r acc e)
    rw [Pt_bind]
    refine Pt_mono (hb x r acc e (by omega) h) fun o e h => ?_
    cases o with
    | none => exact turns_p I r acc e h hb hq (by omega)
    | some t =>
      show Pt Q (if acc.length < line then turns own body r (acc ++ [t]) e else .no)
      rw [if_pos (by omega)]
      exact turns_p I r (acc ++ [t]) e h hb hq (by rw [List.length_append, List.length_singleton]; omega)
theorem lc_p (c : Cfg) (elt : E) (tg : Tg) (it : It) (ifs : Es) (own : List Nat) (e : Env) (Q : T → Env → Prop) : Pt Q (ev c (.lc elt tg it ifs own) e) = Pt (fun l e0 => Br (Pt (fun acc e => Q (.lst true acc) (back e0 e own)) (turns own (lcBody c tg ifs elt) l [] e0)) False (plainAt e0 own && tgIn tg own)) (evi c it e) := by
  show Pt Q ((evi c it e).bind fun l e0 => if (plainAt e0 own && tgIn tg own) = true then noEx ((turns own (lcBody c tg ifs elt) l [] e0).bind fun acc e => R.ok (T.lst true acc) (back e0 e own)) else .no) = _
  rw [Pt_bind]
  congr 1
  funext l e0
  cases (plainAt e0 own && tgIn tg own) with
  | false => rfl
  | true =>
    rw [if_pos rfl, Br_t]
    cases turns own (lcBody c tg ifs elt) l [] e0 <;> rfl
theorem lcBody_p (c : Cfg) (elt : E) (tg : Tg) (ifs : Es) (x : T) (e : Env) (Q : Option T → Env → Prop) : Pt Q (lcBody c tg ifs elt x e) = Pt (fun _ e => Pt (fun b e => Br (Pt (fun t e => Q (some (fz t)) e) (strong (isRd elt) (ev c elt) e)) (Q none e) b) (evT c ifs e)) (asg tg x e) := by
  unfold lcBody
  rw [Pt_bind]
  congr 1
  funext _ e
  rw [Pt_bind]
  congr 1
  funext b e
  cases b with
  | false => rfl
  | true =>
    show Pt Q ((strong (isRd elt) (ev c elt) e).bind _) = _
    rw [Pt_bind]; rfl
end Vi

set_option autoImplicit false
set_option Elab.async false
set_option linter.all false
set_option maxRecDepth 100000
/-! VI: the meaning's equations, constructor by constructor. -/
namespace Vi
def gt (e : Env) (i : Nat) : Option T := (e[i]?).bind id
def ib (e : Env) (i : Nat) : Bool := decide (i < e.length)
def ou (ms : List Nat) : Nat → List PySem.Str → Env → Env
  | _, [], _ => []
  | i, _ :: ps, e => (bif ms.contains i then gt e i else none) :: ou ms (i + 1) ps e
theorem ou_eq (ms : List Nat) (ps : List PySem.Str) (e : Env) : (List.range ps.length).map (fun i => if ms.contains i then (e[i]?).bind id else none) = ou ms 0 ps e := by
  have aux : ∀ (ps : List PySem.Str) (k : Nat), (List.range ps.length).map (fun i => if ms.contains (k + i) then (e[k + i]?).bind id else none) = ou ms k ps e := by
    intro ps
    induction ps with
    | nil => intro k; rfl
    | cons p ps ih =>
      intro k
      rw [List.length_cons, List.range_succ_eq_map, List.map_cons, List.map_map]
      show _ = (bif ms.contains k then gt e k else none) :: ou ms (k + 1) ps e
      rw [← ih (k + 1)]
      congr 1
      · show (if ms.contains k = true then (e[k]?).bind id else none) = _
        cases ms.contains k <;> rfl
      · apply List.map_congr_left
        intro i _
        show (if ms.contains (k + (i + 1)) = true then _ else none) = _
        rw [show k + (i + 1) = k + 1 + i by omega]
  have := aux ps 0
  simpa using this
theorem ifb {α : Type} (c : Bool) (a b : α) : (if c = true then a else b) = bif c then a else b := by cases c <;> rfl
theorem map_nil' {α β : Type} (f : α → β) : List.map f [] = [] := rfl
theorem rep_z {α : Type} (a : α) : List.replicate 0 a = [] := rfl
theorem rep_s {α : Type} (a : α) (n : Nat) : List.replicate (n + 1) a = a :: List.replicate n a := rfl
def rp {α : Type} (a : α) (n : Nat) : List α := List.replicate n a
theorem gt_z (a : Option T) (r : Env) : gt (a :: r) 0 = a := by cases a <;> rfl
theorem gt_s (a : Option T) (r : Env) (i : Nat) : gt (a :: r) (i + 1) = gt r i := rfl
theorem ib_z (a : Option T) (r : Env) : ib (a :: r) 0 = true := by simp [ib]
theorem ib_s (a : Option T) (r : Env) (i : Nat) : ib (a :: r) (i + 1) = ib r i := by simp [ib]
theorem ou_n (ms : List Nat) (i : Nat) (e : Env) : ou ms i [] e = [] := rfl
theorem ou_c (ms : List Nat) (i : Nat) (p : PySem.Str) (ps : List PySem.Str) (e : Env) : ou ms i (p :: ps) e = (bif ms.contains i then gt e i else none) :: ou ms (i + 1) ps e := rfl
def pad : List PySem.Str → List PySem.Str → Env
  | [], _ => []
  | _ :: ns, [] => none :: pad ns []
  | _ :: ns, _ :: ps => pad ns ps
theorem pad_eq : ∀ (ns ps : List PySem.Str), (List.replicate (ns.length - ps.length) none : Env) = pad ns ps
  | [], ps => by rw [List.length_nil, Nat.zero_sub]; cases ps <;> rfl
  | _ :: ns, [] => by
    have := pad_eq ns []
    rw [List.length_nil, Nat.sub_zero] at this
    rw [List.length_nil, Nat.sub_zero, List.length_cons, List.replicate_succ, this]; rfl
  | _ :: ns, _ :: ps => by
    rw [List.length_cons, List.length_cons, Nat.add_sub_add_right]
    exact pad_eq ns ps
def args : List T → List PySem.Str → Bool
  | [], [] => true
  | _ :: r, _ :: ps => args r ps
  | _, _ => false
theorem args_eq : ∀ (ts : List T) (ps : List PySem.Str), decide (ts.length = ps.length) = args ts ps
  | [], [] => rfl
  | [], _ :: ps => rfl
  | _ :: r, [] => rfl
  | t :: r, p :: ps => by
    have := args_eq r ps
    rw [List.length_cons, List.length_cons]
    simp only [Nat.add_right_cancel_iff]
    exact this
def sm : List T → Env → Env
  | [], e => e
  | t :: r, e => some t :: sm r e
theorem sm_eq : ∀ (ts : List T) (e : Env), ts.map some ++ e = sm ts e
  | [], _ => rfl
  | t :: r, e => congrArg (some t :: ·) (sm_eq r e)
/-- a def is run -/
theorem run_q (c : Cfg) (nm : PySem.Str) (ps ns : List PySem.Str) (ms : List Nat) (body : Ss) (ts : List T) (Q : T → Env → Prop) : Pc Q (Def.run ⟨nm, ps, ns, ms, body⟩ c ts) = Br (Pt (fun f e => match f with
    | .ret t => Q t (ou ms 0 ps e)
    | .nx => Q .non (ou ms 0 ps e)
    | _ => False) (exs c body (sm ts (pad ns ps)))) False (args ts ps) := by
  rw [run_p, ← args_eq, ← pad_eq, ← sm_eq]
  show Br (Pt _ (exs c body (ts.map some ++ List.replicate (ns.length - ps.length) none))) False (decide (ts.length = ps.length)) = _
  congr 2
  funext f e
  cases f <;> simp only [outsOf, ou_eq]
theorem pad_n (ps : List PySem.Str) : pad [] ps = [] := rfl
theorem pad_1 (n : PySem.Str) (ns : List PySem.Str) : pad (n :: ns) [] = none :: pad ns [] := rfl
theorem pad_2 (n p : PySem.Str) (ns ps : List PySem.Str) : pad (n :: ns) (p :: ps) = pad ns ps := rfl
theorem args_n : args [] [] = true := rfl
theorem args_c (t : T) (r : List T) (p : PySem.Str) (ps : List PySem.Str) : args (t :: r) (p :: ps) = args r ps := rfl
theorem sm_n (e : Env) : sm [] e = e := rfl
theorem sm_c (t : T) (r : List T) (e : Env) : sm (t :: r) e = some t :: sm r e := rfl
section
variable (c : Cfg)
theorem var_q (i : Nat) (e : Env) (Q : T → Env → Prop) : Pt Q (ev c (.var i) e) = Oa (fun t => Br (Q (fz t) (e.set i (some (fz t)))) (Q t e) (own t)) (gt e i) := getVar_p i e Q
theorem mut_q (i : Nat) (as : As) (e : Env) (Q : List (T ⊕ Nat) → Env → Prop) : Pt Q (eva c (.mut i as) e) = Oa (fun _ => Pt (fun l e => Q (.inr i :: l) e) (eva c as e)) (gt e i) := eva_mut c i as e Q
theorem retv_q (i : Nat) (e : Env) (Q : Fl → Env → Prop) : Pt Q (ex c (.retv i) e) = Oa (fun t => Q (.ret t) (e.set i none)) (gt e i) := retv_p c i e Q
end
theorem opd_q (i : Nat) (m : M T) (e : Env) (Q : O → Env → Prop) : Pt Q (opd (some i) m e) = Oa (fun _ => Q (.r i) e) (gt e i) := opd_some i m e Q
theorem opd_none2 (m : M T) (e : Env) (Q : O → Env → Prop) : Pt Q (opd none m e) = Pt (fun t e => Q (.v t) e) (m e) := opd_none m e Q
theorem get_v (t : T) (e : Env) : O.get (.v t) e = some t := rfl
theorem get_r (i : Nat) (e : Env) : O.get (.r i) e = gt e i := rfl
theorem setVar_q (i : Nat) (t : T) (e : Env) (Q : Unit → Env → Prop) : Pt Q (setVar i t e) = Br (Q () (e.set i (some t))) False (ib e i) := setVar_p i t e Q
theorem putM1_q (i : Nat) (k t : T) (e : Env) (Q : Unit → Env → Prop) : Pt Q (putM1 i k t e) = putQ i k t e (Q ()) (gt e i) := putM1_p i k t e Q
theorem appM_q (i : Nat) (t : T) (e : Env) (Q : Unit → Env → Prop) : Pt Q (appM i t e) = Oa (fun l => Br (Q () (e.set i (some (.lst true (l ++ [fz t]))))) False (decide (l.length < line))) (ownL? (gt e i)) := appM_p i t e Q
def ownL : Option T → Bool
  | some (.lst o _) => o
  | _ => false
def ownX : Option T → Bool
  | some (.lst o _) => o
  | some (.dic o _) => o
  | _ => false
theorem isOwnL_q (e : Env) (i : Nat) : isOwnL e i = ownL (gt e i) := by
  unfold isOwnL gt
  generalize (e[i]?).bind id = o
  cases o with
  | none => rfl
  | some v => cases v with
    | lst o l => cases o <;> rfl
    | _ => rfl
theorem isOwnX_q (e : Env) (i : Nat) : isOwnX e i = ownX (gt e i) := by
  unfold isOwnX gt
  generalize (e[i]?).bind id = o
  cases o with
  | none => rfl
  | some v => cases v with
    | lst o l => cases o <;> rfl
    | dic o l => cases o <;> rfl
    | _ => rfl
theorem ownL_l (o : Bool) (l : List T) : ownL (some (.lst o l)) = o := rfl
theorem ownX_l (o : Bool) (l : List T) : ownX (some (.lst o l)) = o := rfl
theorem ownX_d (o : Bool) (l : List (T × T)) : ownX (some (.dic o l)) = o := rfl
theorem ownL?_l (l : List T) : ownL? (some (.lst true l)) = some l := rfl
abbrev Fq (_ : Env → Prop) (_ : Fl → Env → Prop) : Type := Fl
def nxt (A : Env → Prop) (Q : Fl → Env → Prop) (f : Fq A Q) (e : Env) : Prop := match (f : Fl) with
  | .nx => A e
  | f => Q f e
theorem nxt_n (A : Env → Prop) (Q : Fl → Env → Prop) (e : Env) : nxt A Q .nx e = A e := rfl
theorem nxt_b (A : Env → Prop) (Q : Fl → Env → Prop) (e : Env) : nxt A Q .brk e = Q .brk e := rfl
theorem nxt_c (A : Env → Prop) (Q : Fl → Env → Prop) (e : Env) : nxt A Q .cnt e = Q .cnt e := rfl
theorem nxt_r (A : Env → Prop) (Q : Fl → Env → Prop) (e : Env) (t : T) : nxt A Q (.ret t) e = Q (.ret t) e := rfl
theorem exs_q (c : Cfg) (s : S) (ss : Ss) (e : Env) (Q : Fl → Env → Prop) : Pt Q (exs c (.cons s ss) e) = Pt (nxt (fun e => Pt Q (exs c ss e)) Q) (ex c s e) := by
  rw [exs_p]
  congr 1
  funext f e
  cases f <;> rfl
def lq (A : Env → Prop) (Q : Fl → Env → Prop) (f : Fq A Q) (e : Env) : Prop := match (f : Fl) with
  | .nx => A e
  | .cnt => A e
  | .brk => Q .nx e
  | .ret t => Q (.ret t) e
theorem lq_n (A : Env → Prop) (Q : Fl → Env → Prop) (e : Env) : lq A Q .nx e = A e := rfl
theorem lq_b (A : Env → Prop) (Q : Fl → Env → Prop) (e : Env) : lq A Q .brk e = Q .nx e := rfl
theorem lq_c (A : Env → Prop) (Q : Fl → Env → Prop) (e : Env) : lq A Q .cnt e = A e := rfl
theorem lq_r (A : Env → Prop) (Q : Fl → Env → Prop) (e : Env) (t : T) : lq A Q (.ret t) e = Q (.ret t) e := rfl
theorem forL_n (tg : T → M Unit) (body : M Fl) (e : Env) (Q : Fl → Env → Prop) : Pt Q (forL tg body [] e) = Q .nx e := rfl
theorem forL_c (tg : T → M Unit) (body : M Fl) (x : T) (r : List T) (e : Env) (Q : Fl → Env → Prop) : Pt Q (forL tg body (x :: r) e) = Pt (fun _ e => Pt (lq (fun e => Pt Q (forL tg body r e)) Q) (body e)) (tg x e) := by
  show Pt Q ((tg x e).bind fun _ e => (body e).bind fun f e => match f with
      | .nx => forL tg body r e
      | .cnt => forL tg body r e
      | .brk => .ok .nx e
      | .ret t => .ok (.ret t) e) = _
  rw [Pt_bind]
  congr 1
  funext _ e
  rw [Pt_bind]
  congr 1
  funext f e
  cases f <;> rfl
def Pe (t : T) (o : Env) : T → Env → Prop := fun t' o' => t' = t ∧ o' = o
theorem Pe_ret {t : T} {o : Env} {r : CR} (h : Pc (Pe t o) r) : r = .ret t o := by
  obtain ⟨t', o', e, rfl, rfl⟩ := Pc_elim h
  exact e
def gd : T → Option T
  | .dic _ l => some (.dic true l)
  | _ => none
theorem gdct_q (c : Cfg) (g : Nat) (e : Env) (Q : T → Env → Prop) : Pt Q (ev c (.gdct g) e) = Oa (fun t => Q t e) ((c.glos[g]?).bind gd) := by
  show Pt Q (need ((c.glos[g]?).bind fun t => match t with
    | .dic _ l => some (.dic true l)
    | _ => none) e) = _
  rw [Pt_need]
  congr 2
theorem gd_d (o : Bool) (l : List (T × T)) : gd (.dic o l) = some (.dic true l) := rfl
theorem putM_q (c : Cfg) (ps : Ps) (es : Es) (e : Env) (Q : Fl → Env → Prop) : Pt Q (ex c (.putM ps es) e) = Pt (fun l e => Pt (fun _ e => Q .nx e) (putsM c ps l e)) (evs c es e) := by
  show Pt Q ((evs c es e).bind fun l e => (putsM c ps l e).bind fun _ e => .ok .nx e) = _
  rw [Pt_bind]
  congr 1
  funext l e
  rw [Pt_bind]; rfl
theorem puts_n (c : Cfg) (e : Env) (Q : Unit → Env → Prop) : Pt Q (putsM c .nil [] e) = Q () e := rfl
theorem puts_c (c : Cfg) (i : Nat) (k : E) (b : Bool) (ps : Ps) (t : T) (l : List T) (e : Env) (Q : Unit → Env → Prop) : Pt Q (putsM c (.cons i k b ps) (t :: l) e) = Br (Pt (fun z e => Pt (fun _ e => Pt Q (putsM c ps l e)) (putM1 i (fz z) t e)) (strong (isRd k) (ev c k) e)) False (isOwnX e i) := by
  show Pt Q (if isOwnX e i = true then (strong (isRd k) (ev c k) e).bind fun z e => (putM1 i (fz z) t e).bind fun _ e => putsM c ps l e else .no) = _
  cases isOwnX e i with
  | false => rfl
  | true =>
    rw [if_pos rfl, Br_t, Pt_bind]
    congr 1
    funext z e
    rw [Pt_bind]
theorem own_n  : own .non = false := rfl
theorem own_b (b : Bool) : own (.bl b) = false := rfl
theorem own_i (i : Int) : own (.int i) = false := rfl
theorem own_s (s : List Nat) : own (.str s) = false := rfl
theorem own_t (l : List T) : own (.tup l) = false := rfl
theorem own_l (o : Bool) (l : List T) : own (.lst o l) = o := rfl
theorem own_d (o : Bool) (l : List (T × T)) : own (.dic o l) = o := rfl
theorem fz_n  : fz .non = .non := rfl
theorem fz_b (b : Bool) : fz (.bl b) = (.bl b) := rfl
theorem fz_i (i : Int) : fz (.int i) = (.int i) := rfl
theorem fz_s (s : List Nat) : fz (.str s) = (.str s) := rfl
theorem fz_t (l : List T) : fz (.tup l) = (.tup l) := rfl
theorem fz_l (o : Bool) (l : List T) : fz (.lst o l) = .lst false l := rfl
theorem fz_d (o : Bool) (l : List (T × T)) : fz (.dic o l) = .dic false (l.map fun p => (p.1, fz1 p.2)) := rfl
theorem fz1_n  : fz1 .non = .non := rfl
theorem fz1_b (b : Bool) : fz1 (.bl b) = (.bl b) := rfl
theorem fz1_i (i : Int) : fz1 (.int i) = (.int i) := rfl
theorem fz1_s (s : List Nat) : fz1 (.str s) = (.str s) := rfl
theorem fz1_t (l : List T) : fz1 (.tup l) = (.tup l) := rfl
theorem fz1_l (o : Bool) (l : List T) : fz1 (.lst o l) = .lst false l := rfl
theorem sh1_n  : sh1 .non = .non := rfl
theorem sh1_b (b : Bool) : sh1 (.bl b) = (.bl b) := rfl
theorem sh1_i (i : Int) : sh1 (.int i) = (.int i) := rfl
theorem sh1_s (s : List Nat) : sh1 (.str s) = (.str s) := rfl
theorem sh1_t (l : List T) : sh1 (.tup l) = (.tup l) := rfl
theorem sh1_l (l : List T) : sh1 (.lst false l) = .lst false l := rfl
theorem tru_n : tru .non = some false := rfl
theorem tru_b (b : Bool) : tru (.bl b) = some b := rfl
theorem tru_i (i : Int) : tru (.int i) = some (i != 0) := rfl
theorem tru_s (s : List Nat) : tru (.str s) = some (!s.isEmpty) := rfl
theorem tru_t (l : List T) : tru (.tup l) = some (!l.isEmpty) := rfl
theorem tru_l (o : Bool) (l : List T) : tru (.lst o l) = some (!l.isEmpty) := rfl
theorem isi_int_n  : isiT .int .non = some false := rfl
theorem isi_int_b (b : Bool) : isiT .int (.bl b) = some true := rfl
theorem isi_int_i (i : Int) : isiT .int (.int i) = some true := rfl
theorem isi_int_s (s : List Nat) : isiT .int (.str s) = some false := rfl
theorem isi_int_t (l : List T) : isiT .int (.tup l) = some false := rfl
theorem isi_int_l (o : Bool) (l : List T) : isiT .int (.lst o l) = some false := rfl
theorem isi_bool_n  : isiT .bool .non = some false := rfl
theorem isi_bool_b (b : Bool) : isiT .bool (.bl b) = some true := rfl
theorem isi_bool_i (i : Int) : isiT .bool (.int i) = some false := rfl
theorem isi_bool_s (s : List Nat) : isiT .bool (.str s) = some false := rfl
theorem isi_bool_t (l : List T) : isiT .bool (.tup l) = some false := rfl
theorem isi_bool_l (o : Bool) (l : List T) : isiT .bool (.lst o l) = some false := rfl
theorem isi_str_n  : isiT .str .non = some false := rfl
theorem isi_str_b (b : Bool) : isiT .str (.bl b) = some false := rfl
theorem isi_str_i (i : Int) : isiT .str (.int i) = some false := rfl
theorem isi_str_s (s : List Nat) : isiT .str (.str s) = some true := rfl
theorem isi_str_t (l : List T) : isiT .str (.tup l) = some false := rfl
theorem isi_str_l (o : Bool) (l : List T) : isiT .str (.lst o l) = some false := rfl
theorem isi_tuple_n  : isiT .tuple .non = some false := rfl
theorem isi_tuple_b (b : Bool) : isiT .tuple (.bl b) = some false := rfl
theorem isi_tuple_i (i : Int) : isiT .tuple (.int i) = some false := rfl
theorem isi_tuple_s (s : List Nat) : isiT .tuple (.str s) = some false := rfl
theorem isi_tuple_t (l : List T) : isiT .tuple (.tup l) = some true := rfl
theorem isi_tuple_l (o : Bool) (l : List T) : isiT .tuple (.lst o l) = some false := rfl
theorem isi_list_n  : isiT .list .non = some false := rfl
theorem isi_list_b (b : Bool) : isiT .list (.bl b) = some false := rfl
theorem isi_list_i (i : Int) : isiT .list (.int i) = some false := rfl
theorem isi_list_s (s : List Nat) : isiT .list (.str s) = some false := rfl
theorem isi_list_t (l : List T) : isiT .list (.tup l) = some false := rfl
theorem isi_list_l (o : Bool) (l : List T) : isiT .list (.lst o l) = some true := rfl
theorem isNf_n (x : Bool)  : isNf x .non = some (.bl (true == x)) := rfl
theorem isNf_b (x : Bool) (b : Bool) : isNf x (.bl b) = some (.bl (false == x)) := rfl
theorem isNf_i (x : Bool) (i : Int) : isNf x (.int i) = some (.bl (false == x)) := rfl
theorem isNf_s (x : Bool) (s : List Nat) : isNf x (.str s) = some (.bl (false == x)) := rfl
theorem isNf_t (x : Bool) (l : List T) : isNf x (.tup l) = some (.bl (false == x)) := rfl
theorem isNf_l (x : Bool) (o : Bool) (l : List T) : isNf x (.lst o l) = some (.bl (false == x)) := rfl
theorem eqb_nn   : eqb .non .non = true := rfl
theorem eqb_nb  (b' : Bool) : eqb .non (.bl b') = false := rfl
theorem eqb_ni  (i' : Int) : eqb .non (.int i') = false := rfl
theorem eqb_ns  (s' : List Nat) : eqb .non (.str s') = false := rfl
theorem eqb_nt  (l' : List T) : eqb .non (.tup l') = false := rfl
theorem eqb_nl  (o' : Bool) (l' : List T) : eqb .non (.lst o' l') = false := rfl
theorem eqb_bn (b : Bool)  : eqb (.bl b) .non = false := rfl
theorem eqb_bb (b : Bool) (b' : Bool) : eqb (.bl b) (.bl b') = (b == b') := rfl
theorem eqb_bi (b : Bool) (i' : Int) : eqb (.bl b) (.int i') = ((bif b then 1 else 0) == i') := by cases b <;> rfl
theorem eqb_bs (b : Bool) (s' : List Nat) : eqb (.bl b) (.str s') = false := rfl
theorem eqb_bt (b : Bool) (l' : List T) : eqb (.bl b) (.tup l') = false := rfl
theorem eqb_bl (b : Bool) (o' : Bool) (l' : List T) : eqb (.bl b) (.lst o' l') = false := rfl
theorem eqb_in (i : Int)  : eqb (.int i) .non = false := rfl
theorem eqb_ib (i : Int) (b' : Bool) : eqb (.int i) (.bl b') = (i == (bif b' then 1 else 0)) := by cases b' <;> rfl
theorem eqb_ii (i : Int) (i' : Int) : eqb (.int i) (.int i') = (i == i') := rfl
theorem eqb_is (i : Int) (s' : List Nat) : eqb (.int i) (.str s') = false := rfl
theorem eqb_it (i : Int) (l' : List T) : eqb (.int i) (.tup l') = false := rfl
theorem eqb_il (i : Int) (o' : Bool) (l' : List T) : eqb (.int i) (.lst o' l') = false := rfl
theorem eqb_sn (s : List Nat)  : eqb (.str s) .non = false := rfl
theorem eqb_sb (s : List Nat) (b' : Bool) : eqb (.str s) (.bl b') = false := rfl
theorem eqb_si (s : List Nat) (i' : Int) : eqb (.str s) (.int i') = false := rfl
theorem eqb_ss (s : List Nat) (s' : List Nat) : eqb (.str s) (.str s') = (s == s') := rfl
theorem eqb_st (s : List Nat) (l' : List T) : eqb (.str s) (.tup l') = false := rfl
theorem eqb_sl (s : List Nat) (o' : Bool) (l' : List T) : eqb (.str s) (.lst o' l') = false := rfl
theorem eqb_tn (l : List T)  : eqb (.tup l) .non = false := rfl
theorem eqb_tb (l : List T) (b' : Bool) : eqb (.tup l) (.bl b') = false := rfl
theorem eqb_ti (l : List T) (i' : Int) : eqb (.tup l) (.int i') = false := rfl
theorem eqb_ts (l : List T) (s' : List Nat) : eqb (.tup l) (.str s') = false := rfl
theorem eqb_tt (l : List T) (l' : List T) : eqb (.tup l) (.tup l') = eqbs l l' := rfl
theorem eqb_tl (l : List T) (o' : Bool) (l' : List T) : eqb (.tup l) (.lst o' l') = false := rfl
theorem eqb_ln (o : Bool) (l : List T)  : eqb (.lst o l) .non = false := rfl
theorem eqb_lb (o : Bool) (l : List T) (b' : Bool) : eqb (.lst o l) (.bl b') = false := rfl
theorem eqb_li (o : Bool) (l : List T) (i' : Int) : eqb (.lst o l) (.int i') = false := rfl
theorem eqb_ls (o : Bool) (l : List T) (s' : List Nat) : eqb (.lst o l) (.str s') = false := rfl
theorem eqb_lt (o : Bool) (l : List T) (l' : List T) : eqb (.lst o l) (.tup l') = false := rfl
theorem eqb_ll (o : Bool) (l : List T) (o' : Bool) (l' : List T) : eqb (.lst o l) (.lst o' l') = eqbs l l' := rfl
theorem eqbs_nn : eqbs [] [] = true := rfl
theorem eqbs_nc (b : T) (q : List T) : eqbs [] (b :: q) = false := rfl
theorem eqbs_cn (b : T) (q : List T) : eqbs (b :: q) [] = false := rfl
theorem eqbs_cc (a b : T) (r q : List T) : eqbs (a :: r) (b :: q) = (eqb a b && eqbs r q) := rfl
theorem dat_n (n : Nat)  : dat n .non = true := by cases n <;> rfl
theorem dat_b (n : Nat) (b : Bool) : dat n (.bl b) = true := by cases n <;> rfl
theorem dat_i (n : Nat) (i : Int) : dat n (.int i) = true := by cases n <;> rfl
theorem dat_s (n : Nat) (s : List Nat) : dat n (.str s) = true := by cases n <;> rfl
theorem dat_t (n : Nat) (l : List T) : dat (n + 1) (.tup l) = dats n l := rfl
theorem dat_l (n : Nat) (o : Bool) (l : List T) : dat (n + 1) (.lst o l) = dats n l := rfl
theorem dats_n (n : Nat) : dats n [] = true := by cases n <;> rfl
theorem dats_c (n : Nat) (a : T) (r : List T) : dats n (a :: r) = (dat n a && dats n r) := by cases n <;> rfl
theorem flat_n  : flat .non = true := rfl
theorem flat_b (b : Bool) : flat (.bl b) = true := rfl
theorem flat_i (i : Int) : flat (.int i) = true := rfl
theorem flat_s (s : List Nat) : flat (.str s) = true := rfl
theorem flat_t (l : List T) : flat (.tup l) = false := rfl
theorem flat_l (o : Bool) (l : List T) : flat (.lst o l) = false := rfl
def Tm (I : Env → Prop) (o : Option T) : Option T → Env → Prop := fun o' e => o' = o ∧ I e
theorem turns_f {own : List Nat} {body : T → M (Option T)} {Q : List T → Env → Prop} {l : List T} {e : Env} (I : Env → Prop) (g : T → Option T) (he : I e) (hl : l.length ≤ line)
    (hb : ∀ x ∈ l, ∀ e, I e → Pt (Tm I (g x)) (body x (wipe e own))) (hq : ∀ e, I e → Q (l.filterMap g) e) : Pt Q (turns own body l [] e) := by
  have key := turns_p (own := own) (body := body) (Q := Q) (fun r acc e => I e ∧ acc ++ r.filterMap g = l.filterMap g ∧ ∀ x ∈ r, x ∈ l) l [] e ⟨he, by simp, fun x h => h⟩ (by
    rintro x r acc e _ ⟨h1, h2, h3⟩
    refine Pt_mono (hb x (h3 x List.mem_cons_self) e h1) fun o e h => ?_
    obtain ⟨rfl, h4⟩ := h
    rw [List.filterMap_cons] at h2
    cases hg : g x with
    | none =>
      rw [hg] at h2
      exact ⟨h4, h2, fun z hz => h3 z (List.mem_cons_of_mem _ hz)⟩
    | some t =>
      rw [hg] at h2
      exact ⟨h4, by rw [List.append_assoc]; exact h2, fun z hz => h3 z (List.mem_cons_of_mem _ hz)⟩) (by
    rintro acc e ⟨h1, h2, _⟩
    rw [List.filterMap_nil, List.append_nil] at h2
    subst h2
    exact hq e h1) (by simpa using hl)
  exact key
theorem turns_m {own : List Nat} {body : T → M (Option T)} {Q : List T → Env → Prop} {l : List T} {e : Env} (I : Env → Prop) (g : T → T) (he : I e) (hl : l.length ≤ line)
    (hb : ∀ x ∈ l, ∀ e, I e → Pt (Tm I (some (g x))) (body x (wipe e own))) (hq : ∀ e, I e → Q (l.map g) e) : Pt Q (turns own body l [] e) :=
  turns_f I (fun x => some (g x)) he hl hb (fun e h => by
    have := hq e h
    rwa [← List.filterMap_eq_map'] at this)
theorem bls_m {α : Type} (f : α → Bool) : ∀ l : List α, bls? (l.map fun x => T.bl (f x)) = some (l.map f)
  | [] => rfl
  | a :: l => by
    show (bls? (l.map fun x => T.bl (f x))).map (f a :: ·) = _
    rw [bls_m f l]; rfl
theorem all_m {α : Type} (f : α → Bool) (l : List α) : (l.map f).all id = l.all f := by
  rw [List.all_map]; rfl
theorem eqbs_nil : ∀ l : List T, eqbs l [] = l.isEmpty
  | [] => rfl
  | _ :: _ => rfl
theorem flt (f : T → Bool) : ∀ l : List T, ((l.filterMap fun x => bif f x then none else some x)).isEmpty = l.all f
  | [] => rfl
  | x :: l => by
    rw [List.filterMap_cons, List.all_cons]
    cases f x
    · rfl
    · rw [Bool.true_and]; exact flt f l
theorem flt_mem (f : T → Bool) (l : List T) : ∀ y ∈ (l.filterMap fun x => bif f x then none else some x), y ∈ l := by
  intro y hy
  obtain ⟨x, hx, e⟩ := List.mem_filterMap.mp hy
  cases h : f x with
  | true => rw [h] at e; exact absurd e (by simp)
  | false => rw [h, cond_false] at e; cases e; exact hx
mutual
/-- data: no dicts, lists frozen, its depth at most n -/
def dt : Nat → T → Bool
  | _, .non => true
  | _, .bl _ => true
  | _, .int _ => true
  | _, .str _ => true
  | n + 1, .tup l => dts n l
  | n + 1, .lst o l => !o && dts n l
  | _, _ => false
def dts : Nat → List T → Bool
  | _, [] => true
  | n, a :: r => dt n a && dts n r
end
theorem dts_c (n : Nat) (a : T) (r : List T) : dts n (a :: r) = (dt n a && dts n r) := by cases n <;> rfl
theorem dts_n (n : Nat) : dts n [] = true := by cases n <;> rfl
theorem dt_own {n : Nat} {t : T} (h : dt n t = true) : own t = false := by
  cases t with
  | lst o l => cases n with
    | zero => exact absurd h (by simp [dt])
    | succ n => cases o with
      | false => rfl
      | true => exact absurd h (by simp [dt])
  | dic o l => cases n <;> exact absurd h (by simp [dt])
  | _ => rfl
theorem dt_fz {n : Nat} {t : T} (h : dt n t = true) : fz t = t := by
  cases t with
  | lst o l => cases n with
    | zero => exact absurd h (by simp [dt])
    | succ n => cases o with
      | false => rfl
      | true => exact absurd h (by simp [dt])
  | dic o l => cases n <;> exact absurd h (by simp [dt])
  | _ => rfl
theorem dts_mem {n : Nat} : ∀ {l : List T}, dts n l = true → ∀ x ∈ l, dt n x = true
  | [], _, x, h => by simp at h
  | a :: l, h, x, hx => by
    rw [dts_c, Bool.and_eq_true] at h
    rcases List.mem_cons.mp hx with rfl | hx
    · exact h.1
    · exact dts_mem h.2 x hx
theorem dts_all {n : Nat} : ∀ {l : List T}, (∀ x ∈ l, dt n x = true) → dts n l = true
  | [], _ => dts_n n
  | a :: l, h => by rw [dts_c, h a List.mem_cons_self, dts_all fun x hx => h x (List.mem_cons_of_mem _ hx)]; rfl
theorem dt_all : ∀ (n : Nat) (t : T), (dt n t = true → ∀ k, n ≤ k → dt k t = true ∧ dat k t = true)
  | n, .non, h, k, hk => ⟨by cases k <;> rfl, dat_n k⟩
  | n, .bl b, h, k, hk => ⟨by cases k <;> rfl, dat_b k b⟩
  | n, .int i, h, k, hk => ⟨by cases k <;> rfl, dat_i k i⟩
  | n, .str s, h, k, hk => ⟨by cases k <;> rfl, dat_s k s⟩
  | 0, .tup l, h, k, hk => absurd h (by simp [dt])
  | n + 1, .tup l, h, k, hk => by
    obtain ⟨k, rfl⟩ : ∃ j, k = j + 1 := ⟨k - 1, by omega⟩
    have h : dts n l = true := h
    exact ⟨dts_all (n := k) fun x hx => (dt_all n x (dts_mem h x hx) k (by omega)).1, by
      rw [dat_t]
      have aux : ∀ m : List T, (∀ x ∈ m, x ∈ l) → dats k m = true := by
        intro m
        induction m with
        | nil => intro _; exact dats_n k
        | cons a m ih =>
          intro hm
          have ha := hm a List.mem_cons_self
          rw [dats_c, (dt_all n a (dts_mem h a ha) k (by omega)).2, ih fun x hx => hm x (List.mem_cons_of_mem _ hx)]; rfl
      exact aux l fun x hx => hx⟩
  | 0, .lst o l, h, k, hk => absurd h (by simp [dt])
  | n + 1, .lst o l, h, k, hk => by
    obtain ⟨k, rfl⟩ : ∃ j, k = j + 1 := ⟨k - 1, by omega⟩
    have h : (!o && dts n l) = true := h
    rw [Bool.and_eq_true] at h
    obtain ⟨ho, h⟩ := h
    refine ⟨?_, ?_⟩
    · show (!o && dts k l) = true
      rw [ho, dts_all (n := k) fun x hx => (dt_all n x (dts_mem h x hx) k (by omega)).1]; rfl
    · rw [dat_l]
      have aux : ∀ m : List T, (∀ x ∈ m, x ∈ l) → dats k m = true := by
        intro m
        induction m with
        | nil => intro _; exact dats_n k
        | cons a m ih =>
          intro hm
          have ha := hm a List.mem_cons_self
          rw [dats_c, (dt_all n a (dts_mem h a ha) k (by omega)).2, ih fun x hx => hm x (List.mem_cons_of_mem _ hx)]; rfl
      exact aux l fun x hx => hx
  | 0, .und, h, k, hk => absurd h (by simp [dt])
  | n + 1, .und, h, k, hk => absurd h (by simp [dt])
  | 0, .dic _ _, h, k, hk => absurd h (by simp [dt])
  | n + 1, .dic _ _, h, k, hk => absurd h (by simp [dt])
termination_by n => n
theorem dt_mono {n k : Nat} {t : T} (h : dt n t = true) (hk : n ≤ k) : dt k t = true := (dt_all n t h k hk).1
theorem dt_dat {n k : Nat} {t : T} (h : dt n t = true) (hk : n ≤ k) : dat k t = true := (dt_all n t h k hk).2
theorem dts_dat {n k : Nat} {l : List T} (h : dts n l = true) (hk : n ≤ k) : dats k l = true := by
  have : dt (n + 1) (.tup l) = true := h
  have := dt_dat (k := k + 1) this (by omega)
  rwa [dat_t] at this
theorem dts_mono {n k : Nat} {l : List T} (h : dts n l = true) (hk : n ≤ k) : dts k l = true := dts_all fun x hx => dt_mono (dts_mem h x hx) hk
theorem cmp_eq (a b : T) : cmpT .eq a b = bif dat 64 a && dat 64 b then some (eqb a b) else none := (show cmpT .eq a b = if dat 64 a && dat 64 b then some (eqb a b) else none by simp [cmpT]).trans (ifb _ _ _)
theorem cmp_ne (a b : T) : cmpT .ne a b = bif dat 64 a && dat 64 b then some (!eqb a b) else none := (show cmpT .ne a b = if dat 64 a && dat 64 b then some (!eqb a b) else none by simp [cmpT]).trans (ifb _ _ _)
theorem cmp_lt_i (i i' : Int) : cmpT .lt (.int i) (.int i') = some (decide (i < i')) := rfl
theorem cmp_le_i (i i' : Int) : cmpT .le (.int i) (.int i') = some (decide (i ≤ i')) := rfl
theorem cmp_gt_i (i i' : Int) : cmpT .gt (.int i) (.int i') = some (decide (i' < i)) := rfl
theorem cmp_ge_i (i i' : Int) : cmpT .ge (.int i) (.int i') = some (decide (i' ≤ i)) := rfl
theorem cmp_inn (a b : T) : cmpT .inn a b = inT a b := rfl
theorem cmp_nin (a b : T) : cmpT .nin a b = (inT a b).map (!·) := rfl
theorem in_t (x : T) (l : List T) : inT x (.tup l) = bif flat x && l.all flat then some (l.any fun y => eqb y x) else none := by
  have : inT x (.tup l) = if flat x && l.all flat then some (l.any fun y => eqb y x) else none := by
    cases x with
    | str s => match s with
      | [] => rfl
      | [c] => rfl
      | c :: d :: r => rfl
    | _ => rfl
  rw [this]; cases (flat x && l.all flat) <;> rfl
theorem in_l (x : T) (o : Bool) (l : List T) : inT x (.lst o l) = bif dat 60 x && dats 60 l then some (l.any fun y => eqb y x) else none := by
  have : inT x (.lst o l) = if dat 60 x && dats 60 l then some (l.any fun y => eqb y x) else none := by
    cases x with
    | str s => match s with
      | [] => rfl
      | [c] => rfl
      | c :: d :: r => rfl
    | _ => rfl
  rw [this]; cases (dat 60 x && dats 60 l) <;> rfl
theorem in_1 (c : Nat) (s : List Nat) : inT (.str [c]) (.str s) = some (s.contains c) := rfl
theorem in_d (x : T) (o : Bool) (l : List (T × T)) : inT x (.dic o l) = bif kindD l x then some (dget l x).isSome else none := by
  have : inT x (.dic o l) = if kindD l x then some (dget l x).isSome else none := by
    cases x with
    | str s => match s with
      | [] => rfl
      | [c] => rfl
      | c :: d :: r => rfl
    | _ => rfl
  rw [this]; cases (kindD l x) <;> rfl
theorem idx_t (l : List T) (i : Int) : idxT (.tup l) (.int i) = atx l i := rfl
theorem idx_l (o : Bool) (l : List T) (i : Int) : idxT (.lst o l) (.int i) = atx l i := rfl
theorem idx_s (s : List Nat) (i : Int) : idxT (.str s) (.int i) = (atx s i).map fun c => .str [c] := rfl
theorem idx_d (o : Bool) (l : List (T × T)) (k : T) : idxT (.dic o l) k = bif kindD l k then (dget l k).map sh1 else none := (show idxT (.dic o l) k = if kindD l k then (dget l k).map sh1 else none by simp [idxT]).trans (ifb _ _ _)
theorem atx_0 {α : Type} (a : α) (r : List α) : atx (a :: r) 0 = some a := by
  have h : ixn (a :: r).length 0 = some 0 := by unfold ixn; simp
  unfold atx; rw [h]; rfl
theorem atx_1 {α : Type} (a b : α) (r : List α) : atx (a :: b :: r) 1 = some b := by
  have h : ixn (a :: b :: r).length 1 = some 1 := by unfold ixn; simp; omega
  unfold atx; rw [h]; rfl
theorem atx_2 {α : Type} (a b c : α) (r : List α) : atx (a :: b :: c :: r) 2 = some c := by
  have h : ixn (a :: b :: c :: r).length 2 = some 2 := by unfold ixn; simp; omega
  unfold atx; rw [h]; rfl
theorem atx_3 {α : Type} (a b c d : α) (r : List α) : atx (a :: b :: c :: d :: r) 3 = some d := by
  have h : ixn (a :: b :: c :: d :: r).length 3 = some 3 := by unfold ixn; simp; omega
  unfold atx; rw [h]; rfl
theorem atx_at {α : Type} (l : List α) (i : Int) (h : 0 ≤ i) (h2 : i < l.length) : atx l i = l[i.toNat]? := by
  have e : ixn l.length i = some i.toNat := by unfold ixn; rw [if_pos h, if_pos h2]
  unfold atx; rw [e]; rfl
theorem cut_from {α : Type} (s : List α) (i : Nat) : cut s (some (i : Int)) none = s.drop i := by
  unfold cut six
  by_cases h : i ≤ s.length
  · have e : (if (i : Int) < 0 then max ((i : Int) + (s.length : Int)) 0 else min (i : Int) (s.length : Int)).toNat = i := by
      rw [if_neg (by omega)]; omega
    simp only [e]
    rw [List.take_of_length_le]
    rw [List.length_drop]
    omega
  · have e : (if (i : Int) < 0 then max ((i : Int) + (s.length : Int)) 0 else min (i : Int) (s.length : Int)).toNat = s.length := by
      rw [if_neg (by omega)]; omega
    simp only [e]
    rw [List.drop_of_length_le (by omega), List.drop_of_length_le (by omega), List.take_nil]
theorem cut_to {α : Type} (s : List α) (i : Nat) : cut s none (some (i : Int)) = s.take i := by
  unfold cut six
  have e : (if (i : Int) < 0 then max ((i : Int) + (s.length : Int)) 0 else min (i : Int) (s.length : Int)).toNat = min i s.length := by
    rw [if_neg (by omega)]; omega
  simp only [e]
  rw [List.drop_zero, Nat.sub_zero]
  by_cases h : i ≤ s.length
  · rw [Nat.min_eq_left h]
  · rw [Nat.min_eq_right (by omega), List.take_of_length_le (by omega), List.take_of_length_le (by omega)]
theorem cutf_1 {α : Type} (s : List α) : cut s (some 1) none = s.drop 1 := cut_from s 1
theorem cutf_2 {α : Type} (s : List α) : cut s (some 2) none = s.drop 2 := cut_from s 2
theorem cutf_3 {α : Type} (s : List α) : cut s (some 3) none = s.drop 3 := cut_from s 3
theorem cutf_4 {α : Type} (s : List α) : cut s (some 4) none = s.drop 4 := cut_from s 4
theorem cutt_1 {α : Type} (s : List α) : cut s none (some 1) = s.take 1 := cut_to s 1
theorem cutt_2 {α : Type} (s : List α) : cut s none (some 2) = s.take 2 := cut_to s 2
theorem cutt_3 {α : Type} (s : List α) : cut s none (some 3) = s.take 3 := cut_to s 3
theorem cutt_4 {α : Type} (s : List α) : cut s none (some 4) = s.take 4 := cut_to s 4
theorem sli_s (s : List Nat) (a b : Option Int) : sliT (.str s) a b = some (.str (cut s a b)) := rfl
theorem sli_t (s : List T) (a b : Option Int) : sliT (.tup s) a b = some (.tup (cut s a b)) := rfl
theorem sli_l (o : Bool) (s : List T) (a b : Option Int) : sliT (.lst o s) a b = some (.lst true (cut s a b)) := rfl
theorem len_s (s : List Nat) : b1T .len (.str s) = bif decide (s.length ≤ line) then some (.int s.length) else none := by unfold b1T; by_cases h : s.length ≤ line <;> simp [h]
theorem len_t (l : List T) : b1T .len (.tup l) = some (.int l.length) := rfl
theorem len_l (o : Bool) (l : List T) : b1T .len (.lst o l) = some (.int l.length) := rfl
theorem int_i (i : Int) : b1T .int (.int i) = some (.int i) := rfl
theorem int_b (b : Bool) : b1T .int (.bl b) = some (.int (bif b then 1 else 0)) := by cases b <;> rfl
theorem int_s (s : List Nat) : b1T .int (.str s) = (digit? s).map fun n => .int (n : Nat) := rfl
theorem str_s (s : List Nat) : b1T .str (.str s) = some (.str s) := rfl
theorem str_i (i : Int) : b1T .str (.int i) = bif decide (-1 ≤ i ∧ i ≤ 9) then some (.str (digS i)) else none := by unfold b1T; by_cases h : -1 ≤ i ∧ i ≤ 9 <;> simp [h]
theorem abs_i (i : Int) : b1T .abs (.int i) = some (.int (if i < 0 then -i else i)) := rfl
theorem list_t (l : List T) : b1T .list (.tup l) = some (.lst true l) := rfl
theorem list_l (o : Bool) (l : List T) : b1T .list (.lst o l) = some (.lst true l) := rfl
theorem list_s (s : List Nat) : b1T .list (.str s) = some (.lst true (s.map fun c => .str [c])) := rfl
theorem list_d (o : Bool) (l : List (T × T)) : b1T .list (.dic o l) = bif l.all (fun p => okK0 p.1) then some (.lst true (l.map (·.1))) else none := ifb _ _ _
theorem tuple_t (l : List T) : b1T .tuple (.tup l) = some (.tup l) := rfl
theorem tuple_l (o : Bool) (l : List T) : b1T .tuple (.lst o l) = some (.tup l) := rfl
theorem all_l (o : Bool) (l : List T) : b1T .all (.lst o l) = (bls? l).map fun bs => .bl (bs.all id) := rfl
theorem any_l (o : Bool) (l : List T) : b1T .any (.lst o l) = (bls? l).map fun bs => .bl (bs.any id) := rfl
theorem bool_b (b : Bool) : b1T .bool (.bl b) = some (.bl b) := rfl
theorem min_ii (i i' : Int) : b2T .min (.int i) (.int i') = some (.int (if i' < i then i' else i)) := rfl
theorem max_ii (i i' : Int) : b2T .max (.int i) (.int i') = some (.int (if i' > i then i' else i)) := rfl
theorem add_ii (i i' : Int) : binT .add (.int i) (.int i') = some (.int (i + i')) := rfl
theorem sub_ii (i i' : Int) : binT .sub (.int i) (.int i') = some (.int (i - i')) := rfl
theorem add_ss (s : List Nat) (s' : List Nat) : binT .add (.str s) (.str s') = bif decide (s.length + s'.length ≤ line) then some (.str (s ++ s')) else none := by unfold binT; by_cases h : s.length + s'.length ≤ line <;> simp [h]
theorem add_tt (l : List T) (l' : List T) : binT .add (.tup l) (.tup l') = bif decide (l.length + l'.length ≤ line) then some (.tup (l ++ l')) else none := by unfold binT; by_cases h : l.length + l'.length ≤ line <;> simp [h]
theorem add_ll (o : Bool) (l : List T) (o' : Bool) (l' : List T) : binT .add (.lst o l) (.lst o' l') = bif decide (l.length + l'.length ≤ line) then some (.lst true (l ++ l')) else none := by unfold binT; by_cases h : l.length + l'.length ≤ line <;> simp [h]
theorem mod_ii (i i' : Int) : binT .mod (.int i) (.int i') = bif decide (0 < i') then some (.int (i % i')) else none := by unfold binT; by_cases h : 0 < i' <;> simp [h]
theorem neg_i (i : Int) : negT (.int i) = some (.int (-i)) := rfl
theorem mulsi (s : List Nat) (i : Int) : binT .mul (.str s) (.int i) = bif decide (s.length ≤ 1000 ∧ 0 ≤ i ∧ i ≤ 1000) then some (.str (List.replicate i.toNat s).flatten) else none := by unfold binT; by_cases h : s.length ≤ 1000 ∧ 0 ≤ i ∧ i ≤ 1000 <;> simp [h]
theorem walk_t (l : List T) : walk? (.tup l) = some l := rfl
theorem walk_l (o : Bool) (l : List T) : walk? (.lst o l) = some l := rfl
theorem walk_s (s : List Nat) : walk? (.str s) = some (s.map fun c => .str [c]) := rfl
theorem seq_t (l : List T) : seq? (.tup l) = some l := rfl
theorem seq_l (o : Bool) (l : List T) : seq? (.lst o l) = some l := rfl
theorem tupq (l : List T) : tup? (.tup l) = some l := rfl
theorem strq (l : List Nat) : str? (.str l) = some l := rfl
theorem intq (i : Int) : int? (.int i) = some i := rfl
theorem dicq (o : Bool) (l : List (T × T)) : dic? (.dic o l) = some () := rfl
theorem kept_f (t : T) : kept false t = fz t := rfl
theorem kept_t (o : Bool) (l : List T) : kept true (.lst o l) = .lst o l := rfl
theorem join_q (s : List Nat) (t : T) : mtT .join s t = (seq? t).bind fun l => (strs? l).bind fun ss => bif decide ((ss.map List.length).sum + ss.length * s.length ≤ line) then some (.str (joinS s ss)) else none := by
  show ((seq? t).bind fun l => (strs? l).bind fun ss => if (ss.map List.length).sum + ss.length * s.length ≤ line then some (T.str (joinS s ss)) else none) = _
  congr 1
  funext l
  congr 1
  funext ss
  by_cases h : (ss.map List.length).sum + ss.length * s.length ≤ line <;> simp [h]
theorem index_q (s : List Nat) (c : Nat) : mtT .index s (.str [c]) = (idxOf (· == c) s).map fun n => .int (n : Nat) := rfl
def splOk (s p : List Nat) : Bool := decide (p ≠ [] ∧ (p.all fun c => decide (c < 256)) = true ∧ s.length + 2 ≤ line)
theorem split_q (s p : List Nat) : mtT .split s (.str p) = bif splOk s p then some (.lst true ((splS p 0 [] s).map .str)) else none := by
  show (if p ≠ [] ∧ (p.all fun c => decide (c < 256)) = true ∧ s.length + 2 ≤ line then some (T.lst true ((splS p 0 [] s).map .str)) else none) = _
  unfold splOk
  by_cases h : p ≠ [] ∧ (p.all fun c => decide (c < 256)) = true ∧ s.length + 2 ≤ line
  · rw [if_pos h, decide_eq_true h]; rfl
  · rw [if_neg h, decide_eq_false h]; rfl
theorem getT_q (o : Bool) (l : List (T × T)) (k x : T) : getT (.dic o l) k x = bif kindD l k then some (((dget l k).map sh1).getD x) else none := ifb _ _ _
theorem kind_i (i : Int) : kind? (.int i) = some false := rfl
theorem kind_s (s : List Nat) : kind? (.str s) = some false := rfl
theorem kindD_s (p : T × T) (l : List (T × T)) (s : List Nat) : kindD (p :: l) (.str s) = (kind? p.1 == some false) := rfl
theorem kindD_i (p : T × T) (l : List (T × T)) (i : Int) : kindD (p :: l) (.int i) = (kind? p.1 == some false) := rfl
theorem kindD_ns (s : List Nat) : kindD [] (.str s) = true := rfl
theorem kindD_ni (i : Int) : kindD [] (.int i) = true := rfl
theorem keq_ss (a b : List Nat) : keq (.str a) (.str b) = (a == b) := rfl
theorem keq_ii (a b : Int) : keq (.int a) (.int b) = (a == b) := rfl
theorem dget_n (k : T) : dget [] k = none := rfl
theorem dget_c (p : T × T) (r : List (T × T)) (k : T) : dget (p :: r) k = bif keq p.1 k then some p.2 else dget r k := by show (if keq p.1 k then some p.2 else dget r k) = _; cases keq p.1 k <;> rfl
theorem dhas_n (k : T) : dhas [] k = false := rfl
theorem dhas_c (p : T × T) (r : List (T × T)) (k : T) : dhas (p :: r) k = (keq p.1 k || dhas r k) := by simp [dhas]
theorem dput_q (l : List (T × T)) (k v : T) : dput l k v = bif dhas l k then l.map (fun p => bif keq p.1 k then (p.1, v) else p) else l ++ [(k, v)] := by
  unfold dput
  cases dhas l k
  · rfl
  · rw [if_pos rfl]
    show _ = l.map _
    congr 1
    funext p
    cases keq p.1 k <;> rfl
theorem arg_n (e : Env) : argsIn [] e = some [] := rfl
theorem arg_l (t : T) (r : List (T ⊕ Nat)) (e : Env) : argsIn (.inl t :: r) e = (argsIn r e).map (t :: ·) := rfl
theorem arg_r (i : Nat) (r : List (T ⊕ Nat)) (e : Env) : argsIn (.inr i :: r) e = (gt e i).bind fun t => (argsIn r e).map (t :: ·) := rfl
theorem out_n (o e : Env) : outsIn [] o e = e := by cases o <;> rfl
theorem out_l (t : T) (r : List (T ⊕ Nat)) (o : Option T) (os e : Env) : outsIn (.inl t :: r) (o :: os) e = outsIn r os e := rfl
theorem out_r (i : Nat) (r : List (T ⊕ Nat)) (o : Option T) (os e : Env) : outsIn (.inr i :: r) (o :: os) e = outsIn r os (e.set i o) := rfl
theorem mu_n : muts [] = [] := rfl
theorem mu_l (t : T) (r : List (T ⊕ Nat)) : muts (.inl t :: r) = muts r := rfl
theorem mu_r (i : Nat) (r : List (T ⊕ Nat)) : muts (.inr i :: r) = i :: muts r := rfl
theorem nd_n : nodupN [] = true := rfl
theorem nd_1 (i : Nat) : nodupN [i] = true := rfl
theorem nd_2 (i j : Nat) (r : List Nat) : nodupN (i :: j :: r) = (!(j :: r).contains i && nodupN (j :: r)) := rfl
theorem wipe_n (e : Env) : wipe e [] = e := rfl
theorem wipe_c (e : Env) (i : Nat) (is : List Nat) : wipe e (i :: is) = (wipe e is).set i none := rfl
theorem back_n (a e : Env) : back a e [] = e := rfl
theorem back_c (a e : Env) (i : Nat) (is : List Nat) : back a e (i :: is) = (back a e is).set i (gt a i) := rfl
def plain1 : Option T → Bool
  | some t => !own t
  | none => true
theorem plain_n (e : Env) : plainAt e [] = true := rfl
theorem plain_c (e : Env) (i : Nat) (is : List Nat) : plainAt e (i :: is) = (plain1 (gt e i) && plainAt e is) := by
  show ((match (e[i]?).bind id with
  | some t => !own t
  | none => true) && plainAt e is) = _
  unfold gt plain1
  cases (e[i]?).bind id <;> rfl
theorem plain1_s (t : T) : plain1 (some t) = !own t := rfl
theorem plain1_n : plain1 none = true := rfl
theorem tgIn_n (i : Nat) (own : List Nat) : tgIn (.nm i) own = own.contains i := by simp [tgIn, tgNames]
theorem tgIn_t (ts : Tgs) (own : List Nat) : tgIn (.tp ts) own = (tgsNames ts).all own.contains := rfl
theorem tgs_n : tgsNames .nil = [] := rfl
theorem tgs_c (t : Tg) (ts : Tgs) : tgsNames (.cons t ts) = tgNames t ++ tgsNames ts := rfl
theorem tgn_n (i : Nat) : tgNames (.nm i) = [i] := rfl
theorem tgn_t (ts : Tgs) : tgNames (.tp ts) = tgsNames ts := rfl
theorem setL_q (l : List T) (i : Int) (t : T) : setL l i t = (ixn l.length i).map fun j => l.set j t := rfl
theorem ixn_0 (n : Nat) (h : 0 < n) : ixn n 0 = some 0 := by unfold ixn; rw [if_pos (by decide), if_pos (by omega)]; rfl
theorem ixn_1 (n : Nat) (h : 1 < n) : ixn n 1 = some 1 := by unfold ixn; rw [if_pos (by decide), if_pos (by omega)]; rfl
theorem ixn_2 (n : Nat) (h : 2 < n) : ixn n 2 = some 2 := by unfold ixn; rw [if_pos (by decide), if_pos (by omega)]; rfl
theorem ixn_3 (n : Nat) (h : 3 < n) : ixn n 3 = some 3 := by unfold ixn; rw [if_pos (by decide), if_pos (by omega)]; rfl
theorem sq_nn : (([] : List Nat) == []) = true := rfl
theorem sq_nc (b : Nat) (q : List Nat) : (([] : List Nat) == (b :: q)) = false := rfl
theorem sq_cn (b : Nat) (q : List Nat) : ((b :: q) == ([] : List Nat)) = false := rfl
theorem sq_cc (a b : Nat) (r q : List Nat) : ((a :: r) == (b :: q)) = (a == b && r == q) := rfl
theorem ln_0 : decide (0 ≤ line) = true := by decide
theorem lt_0 : decide (0 < line) = true := by decide
theorem ln_1 : decide (1 ≤ line) = true := by decide
theorem lt_1 : decide (1 < line) = true := by decide
theorem ln_2 : decide (2 ≤ line) = true := by decide
theorem lt_2 : decide (2 < line) = true := by decide
theorem ln_3 : decide (3 ≤ line) = true := by decide
theorem lt_3 : decide (3 < line) = true := by decide
theorem ln_4 : decide (4 ≤ line) = true := by decide
theorem lt_4 : decide (4 < line) = true := by decide
theorem ln_5 : decide (5 ≤ line) = true := by decide
theorem lt_5 : decide (5 < line) = true := by decide
theorem ln_6 : decide (6 ≤ line) = true := by decide
theorem lt_6 : decide (6 < line) = true := by decide
theorem ln_7 : decide (7 ≤ line) = true := by decide
theorem lt_7 : decide (7 < line) = true := by decide
theorem ln_8 : decide (8 ≤ line) = true := by decide
theorem lt_8 : decide (8 < line) = true := by decide
theorem ln_9 : decide (9 ≤ line) = true := by decide
theorem lt_9 : decide (9 < line) = true := by decide
theorem ln_10 : decide (10 ≤ line) = true := by decide
theorem lt_10 : decide (10 < line) = true := by decide
theorem ln_11 : decide (11 ≤ line) = true := by decide
theorem lt_11 : decide (11 < line) = true := by decide
theorem ln_12 : decide (12 ≤ line) = true := by decide
theorem lt_12 : decide (12 < line) = true := by decide
theorem ob_ff : ((some false : Option Bool) == some false) = true := rfl
theorem ob_tf : ((some true : Option Bool) == some false) = false := rfl
theorem ob_nf : ((none : Option Bool) == some false) = false := rfl
theorem oss_s {α : Type} (a : α) : (some a).isSome = true := rfl
theorem oss_n {α : Type} : (none : Option α).isSome = false := rfl
end Vi

set_option autoImplicit true
set_option maxRecDepth 100000
set_option maxHeartbeats 0
namespace ViLaw
open Vi PySem PySem.Spec PyProof.Rows L2
def d_is_number : Def := ⟨PySem.Str.ofString "is_number", [PySem.Str.ofString "value", PySem.Str.ofString "least", PySem.Str.ofString "most"], [PySem.Str.ofString "value", PySem.Str.ofString "least", PySem.Str.ofString "most"], [], (.cons (.ret (.and (.cons (.isi .int (.rd 0)) (.cons (.not (.isi .bool (.rd 0))) (.cons (.chn .le .le (.rd 1) (.rd 0) (.rd 2)) .nil))))) .nil)⟩
def d_is_among : Def := ⟨PySem.Str.ofString "is_among", [PySem.Str.ofString "words", PySem.Str.ofString "value"], [PySem.Str.ofString "words", PySem.Str.ofString "value"], [], (.cons (.ret (.and (.cons (.isi .str (.rd 1)) (.cons (.cmp .inn (.rd 1) (.rd 0)) .nil)))) .nil)⟩
def d_is_worths : Def := ⟨PySem.Str.ofString "is_worths", [PySem.Str.ofString "value"], [PySem.Str.ofString "value", PySem.Str.ofString "worth"], [], (.cons (.ret (.and (.cons (.isi .tuple (.rd 0)) (.cons (.chn .le .le (.cst (.int 1)) (.b1 .len (.rd 0)) (.cst (.int 3))) (.cons (.b1 .all (.lc (.call 0 (.val (.var 1) (.val (.cst (.int 1)) (.val (.cst (.int 3)) .nil)))) (.nm 1) (.of (.var 0)) .nil [1])) .nil))))) .nil)⟩
def d_is_fact : Def := ⟨PySem.Str.ofString "is_fact", [PySem.Str.ofString "many", PySem.Str.ofString "value"], [PySem.Str.ofString "many", PySem.Str.ofString "value", PySem.Str.ofString "letter"], [], (.cons (.ifs (.or (.cons (.not (.isi .tuple (.rd 1))) (.cons (.cmp .eq (.rd 1) (.tup .nil)) (.cons (.not (.isi .str (.idx (.rd 1) (.cst (.int 0))))) .nil)))) (.cons (.ret (.cst (.bl false))) .nil) .nil) (.cons (.ifs (.cmp .eq (.idx (.rd 1) (.cst (.int 0))) (.cst (.str [97, 104, 101, 97, 100]))) (.cons (.ret (.cmp .eq (.b1 .len (.rd 1)) (.cst (.int 1)))) .nil) .nil) (.cons (.ifs (.cmp .ne (.b1 .len (.rd 1)) (.cst (.int 3))) (.cons (.ret (.cst (.bl false))) .nil) .nil) (.cons (.ifs (.cmp .eq (.idx (.rd 1) (.cst (.int 0))) (.cst (.str [97, 116]))) (.cons (.ret (.and (.cons (.call 1 (.val (.tup (.cons (.cst (.str [108, 101, 102, 116])) (.cons (.cst (.str [114, 105, 103, 104, 116])) .nil))) (.val (.idx (.rd 1) (.cst (.int 1))) .nil))) (.cons (.call 1 (.val (.lc (.var 2) (.nm 2) (.of (.sli (.glo 0) .non (.som (.var 0)))) .nil [2]) (.val (.idx (.rd 1) (.cst (.int 2))) .nil))) .nil)))) .nil) .nil) (.cons (.ret (.and (.cons (.cmp .inn (.idx (.rd 1) (.cst (.int 0))) (.tup (.cons (.cst (.str [115, 117, 109])) (.cons (.cst (.str [115, 105, 122, 101])) .nil)))) (.cons (.call 1 (.val (.tup (.cons (.cst (.str [105, 115])) (.cons (.cst (.str [111, 118, 101, 114])) .nil))) (.val (.idx (.rd 1) (.cst (.int 1))) .nil))) (.cons (.call 0 (.val (.idx (.rd 1) (.cst (.int 2))) (.val (.cst (.int 0)) (.val (.cst (.int 9)) .nil)))) .nil))))) .nil)))))⟩
def d_are_tests : Def := ⟨PySem.Str.ofString "are_tests", [PySem.Str.ofString "many", PySem.Str.ofString "value"], [PySem.Str.ofString "many", PySem.Str.ofString "value", PySem.Str.ofString "test", PySem.Str.ofString "wanted", PySem.Str.ofString "fact"], [], (.cons (.ifs (.or (.cons (.not (.isi .tuple (.rd 1))) (.cons (.cmp .gt (.b1 .len (.rd 1)) (.cst (.int 3))) .nil))) (.cons (.ret (.cst (.bl false))) .nil) .nil) (.cons (.ifs (.not (.b1 .all (.lc (.and (.cons (.isi .tuple (.rd 2)) (.cons (.cmp .eq (.b1 .len (.rd 2)) (.cst (.int 2))) .nil))) (.nm 2) (.of (.var 1)) .nil [2]))) (.cons (.ret (.cst (.bl false))) .nil) .nil) (.cons (.ret (.b1 .all (.lc (.and (.cons (.isi .bool (.rd 3)) (.cons (.call 3 (.val (.var 0) (.val (.var 4) .nil))) .nil))) (.tp (.cons (.nm 3) (.cons (.nm 4) .nil))) (.of (.var 1)) .nil [3, 4]))) .nil)))⟩
def d_is_statement : Def := ⟨PySem.Str.ofString "is_statement", [PySem.Str.ofString "many", PySem.Str.ofString "value", PySem.Str.ofString "deep"], [PySem.Str.ofString "many", PySem.Str.ofString "value", PySem.Str.ofString "deep", PySem.Str.ofString "body"], [], (.cons (.ifs (.or (.cons (.not (.isi .tuple (.rd 1))) (.cons (.cmp .eq (.rd 1) (.tup .nil)) (.cons (.not (.isi .str (.idx (.rd 1) (.cst (.int 0))))) (.cons (.cmp .lt (.rd 2) (.cst (.int 1))) .nil))))) (.cons (.ret (.cst (.bl false))) .nil) .nil) (.cons (.ifs (.cmp .inn (.idx (.rd 1) (.cst (.int 0))) (.glo 1)) (.cons (.ret (.cmp .eq (.b1 .len (.rd 1)) (.cst (.int 1)))) .nil) .nil) (.cons (.ifs (.cmp .inn (.idx (.rd 1) (.cst (.int 0))) (.tup (.cons (.cst (.str [109, 111, 115, 116])) (.cons (.cst (.str [108, 101, 97, 115, 116])) .nil)))) (.cons (.ret (.and (.cons (.cmp .eq (.b1 .len (.rd 1)) (.cst (.int 2))) (.cons (.call 1 (.val (.tup (.cons (.cst (.str [115, 105, 122, 101])) (.cons (.cst (.str [115, 117, 109])) .nil))) (.val (.idx (.rd 1) (.cst (.int 1))) .nil))) .nil)))) .nil) .nil) (.cons (.ifs (.cmp .eq (.idx (.rd 1) (.cst (.int 0))) (.cst (.str [99, 111, 117, 110, 116]))) (.cons (.ret (.and (.cons (.cmp .eq (.b1 .len (.rd 1)) (.cst (.int 2))) (.cons (.call 1 (.val (.tup (.cons (.cst (.str [115, 105, 122, 101])) (.cons (.cst (.str [111, 110, 101])) .nil))) (.val (.idx (.rd 1) (.cst (.int 1))) .nil))) .nil)))) .nil) .nil) (.cons (.ifs (.or (.cons (.cmp .nin (.idx (.rd 1) (.cst (.int 0))) (.tup (.cons (.cst (.str [119, 104, 105, 108, 101])) (.cons (.cst (.str [105, 102])) .nil)))) (.cons (.cmp .ne (.b1 .len (.rd 1)) (.ite (.cmp .eq (.idx (.rd 1) (.cst (.int 0))) (.cst (.str [119, 104, 105, 108, 101]))) (.cst (.int 3)) (.cst (.int 4)))) .nil))) (.cons (.ret (.cst (.bl false))) .nil) .nil) (.cons (.ret (.and (.cons (.call 4 (.val (.var 0) (.val (.idx (.rd 1) (.cst (.int 1))) .nil))) (.cons (.b1 .all (.lc (.call 6 (.val (.var 0) (.val (.var 3) (.val (.bin .sub (.rd 2) (.cst (.int 1))) .nil)))) (.nm 3) (.of (.sli (.rd 1) (.som (.cst (.int 2))) .non)) .nil [3])) .nil)))) .nil))))))⟩
def d_is_body : Def := ⟨PySem.Str.ofString "is_body", [PySem.Str.ofString "many", PySem.Str.ofString "value", PySem.Str.ofString "deep"], [PySem.Str.ofString "many", PySem.Str.ofString "value", PySem.Str.ofString "deep", PySem.Str.ofString "statement"], [], (.cons (.ifs (.or (.cons (.not (.isi .tuple (.rd 1))) (.cons (.cmp .gt (.b1 .len (.rd 1)) (.cst (.int 8))) .nil))) (.cons (.ret (.cst (.bl false))) .nil) .nil) (.cons (.ret (.b1 .all (.lc (.call 5 (.val (.var 0) (.val (.var 3) (.val (.var 2) .nil)))) (.nm 3) (.of (.var 1)) .nil [3]))) .nil))⟩
def d_bodies_of : Def := ⟨PySem.Str.ofString "bodies_of", [PySem.Str.ofString "statement"], [PySem.Str.ofString "statement"], [], (.cons (.ret (.ite (.cmp .inn (.idx (.rd 0) (.cst (.int 0))) (.tup (.cons (.cst (.str [119, 104, 105, 108, 101])) (.cons (.cst (.str [105, 102])) .nil)))) (.b1 .list (.sli (.rd 0) (.som (.cst (.int 2))) .non)) (.lst .nil))) .nil)⟩
def d_listed : Def := ⟨PySem.Str.ofString "listed", [PySem.Str.ofString "body"], [PySem.Str.ofString "body", PySem.Str.ofString "found", PySem.Str.ofString "statement", PySem.Str.ofString "inner"], [], (.cons (.asg 1 (.lst .nil)) (.cons (.for (.nm 2) (.of (.var 0)) (.cons (.asg 1 (.bin .add (.rd 1) (.lst (.cons (.var 2) .nil)))) (.cons (.for (.nm 3) (.of (.call 7 (.val (.var 2) .nil))) (.cons (.asg 1 (.bin .add (.rd 1) (.call 8 (.val (.var 3) .nil)))) .nil)) .nil))) (.cons (.retv 1) .nil)))⟩
def d_words_in : Def := ⟨PySem.Str.ofString "words_in", [PySem.Str.ofString "body"], [PySem.Str.ofString "body", PySem.Str.ofString "statement"], [], (.cons (.ret (.lc (.idx (.rd 1) (.cst (.int 0))) (.nm 1) (.of (.call 8 (.val (.var 0) .nil))) .nil [1])) .nil)⟩
def d_counts : Def := ⟨PySem.Str.ofString "counts", [PySem.Str.ofString "body"], [PySem.Str.ofString "body"], [], (.cons (.ret (.cmp .inn (.cst (.str [99, 111, 117, 110, 116])) (.call 9 (.val (.var 0) .nil)))) .nil)⟩
def d_is_begin : Def := ⟨PySem.Str.ofString "is_begin", [PySem.Str.ofString "value"], [PySem.Str.ofString "value"], [], (.cons (.ret (.or (.cons (.isN (.rd 0)) (.cons (.call 0 (.val (.var 0) (.val (.neg (.cst (.int 1))) (.val (.cst (.int 9)) .nil)))) .nil)))) .nil)⟩
def d_is_loop : Def := ⟨PySem.Str.ofString "is_loop", [PySem.Str.ofString "value"], [PySem.Str.ofString "value", PySem.Str.ofString "words"], [], (.cons (.ifs (.or (.cons (.not (.isi .tuple (.rd 0))) (.cons (.cmp .ne (.b1 .len (.rd 0)) (.cst (.int 3))) (.cons (.not (.call 2 (.val (.idx (.rd 0) (.cst (.int 0))) .nil))) (.cons (.not (.call 11 (.val (.idx (.rd 0) (.cst (.int 1))) .nil))) .nil))))) (.cons (.ret (.cst (.bl false))) .nil) .nil) (.cons (.ifs (.or (.cons (.not (.call 6 (.val (.b1 .len (.idx (.rd 0) (.cst (.int 0)))) (.val (.idx (.rd 0) (.cst (.int 2))) (.val (.glo 3) .nil))))) (.cons (.cmp .gt (.b1 .len (.call 8 (.val (.idx (.rd 0) (.cst (.int 2))) .nil))) (.glo 2)) .nil))) (.cons (.ret (.cst (.bl false))) .nil) .nil) (.cons (.asg 1 (.call 9 (.val (.idx (.rd 0) (.cst (.int 2))) .nil))) (.cons (.ret (.or (.cons (.cmp .nin (.cst (.str [99, 111, 117, 110, 116])) (.rd 1)) (.cons (.and (.cons (.notN (.idx (.rd 0) (.cst (.int 1)))) (.cons (.cmp .nin (.cst (.str [109, 111, 115, 116])) (.rd 1)) (.cons (.cmp .nin (.cst (.str [108, 101, 97, 115, 116])) (.rd 1)) .nil)))) .nil)))) .nil))))⟩
def d_is_wish : Def := ⟨PySem.Str.ofString "is_wish", [PySem.Str.ofString "value"], [PySem.Str.ofString "value"], [], (.cons (.ifs (.or (.cons (.not (.isi .tuple (.rd 0))) (.cons (.cmp .ne (.b1 .len (.rd 0)) (.cst (.int 4))) (.cons (.not (.call 1 (.val (.b1 .list (.gdct 4)) (.val (.idx (.rd 0) (.cst (.int 0))) .nil)))) .nil)))) (.cons (.ret (.cst (.bl false))) .nil) .nil) (.cons (.ifs (.or (.cons (.not (.call 1 (.val (.idx (.gdct 4) (.idx (.rd 0) (.cst (.int 0)))) (.val (.idx (.rd 0) (.cst (.int 1))) .nil)))) (.cons (.not (.call 0 (.val (.idx (.rd 0) (.cst (.int 2))) (.val (.cst (.int 1)) (.val (.cst (.int 5)) .nil))))) .nil))) (.cons (.ret (.cst (.bl false))) .nil) .nil) (.cons (.ifs (.cmp .eq (.idx (.rd 0) (.cst (.int 0))) (.cst (.str [110, 117, 109, 98, 101, 114]))) (.cons (.ret (.call 0 (.val (.idx (.rd 0) (.cst (.int 3))) (.val (.cst (.int 0)) (.val (.cst (.int 0)) .nil))))) .nil) .nil) (.cons (.ret (.or (.cons (.isN (.idx (.rd 0) (.cst (.int 3)))) (.cons (.and (.cons (.cmp .inn (.idx (.rd 0) (.cst (.int 0))) (.tup (.cons (.cst (.str [108, 111, 110, 103, 101, 115, 116])) (.cons (.cst (.str [103, 114, 101, 97, 116, 101, 115, 116])) .nil)))) (.cons (.call 0 (.val (.idx (.rd 0) (.cst (.int 3))) (.val (.neg (.cst (.int 1))) (.val (.cst (.int 0)) .nil)))) .nil))) .nil)))) .nil))))⟩
def d_need_loop : Def := ⟨PySem.Str.ofString "need_loop", [PySem.Str.ofString "value"], [PySem.Str.ofString "value"], [], (.cons (.ifs (.not (.call 12 (.val (.var 0) .nil))) (.cons (.rai 1 .non) .nil) .nil) .nil)⟩
def d_need_wish : Def := ⟨PySem.Str.ofString "need_wish", [PySem.Str.ofString "value"], [PySem.Str.ofString "value"], [], (.cons (.ifs (.not (.call 13 (.val (.var 0) .nil))) (.cons (.rai 2 .non) .nil) .nil) .nil)⟩
def d_suits : Def := ⟨PySem.Str.ofString "suits", [PySem.Str.ofString "loop", PySem.Str.ofString "wish"], [PySem.Str.ofString "loop", PySem.Str.ofString "wish"], [], (.cons (.ret (.cmp .eq (.call 10 (.val (.idx (.rd 0) (.cst (.int 2))) .nil)) (.cmp .eq (.idx (.rd 1) (.cst (.int 0))) (.cst (.str [110, 117, 109, 98, 101, 114]))))) .nil)⟩
def d_need_suiting : Def := ⟨PySem.Str.ofString "need_suiting", [PySem.Str.ofString "loop", PySem.Str.ofString "wish"], [PySem.Str.ofString "loop", PySem.Str.ofString "wish"], [], (.cons (.exp (.call 14 (.val (.var 0) .nil))) (.cons (.exp (.call 15 (.val (.var 1) .nil))) (.cons (.ifs (.not (.call 16 (.val (.var 0) (.val (.var 1) .nil)))) (.cons (.rai 3 .non) .nil) .nil) .nil)))⟩
def d_fact_text : Def := ⟨PySem.Str.ofString "fact_text", [PySem.Str.ofString "wanted", PySem.Str.ofString "fact"], [PySem.Str.ofString "wanted", PySem.Str.ofString "fact", PySem.Str.ofString "item"], [], (.cons (.ret (.bin .add (.bin .mul (.cst (.str [110, 111, 116, 32])) (.b1 .int (.not (.rd 0)))) (.mt .join (.cst (.str [32])) (.lc (.b1 .str (.rd 2)) (.nm 2) (.of (.var 1)) .nil [2])))) .nil)⟩
def d_tests_text : Def := ⟨PySem.Str.ofString "tests_text", [PySem.Str.ofString "tests"], [PySem.Str.ofString "tests", PySem.Str.ofString "wanted", PySem.Str.ofString "fact"], [], (.cons (.ret (.ite (.cmp .ne (.rd 0) (.tup .nil)) (.mt .join (.cst (.str [44, 32])) (.lc (.call 18 (.val (.var 1) (.val (.var 2) .nil))) (.tp (.cons (.nm 1) (.cons (.nm 2) .nil))) (.of (.var 0)) .nil [1, 2])) (.cst (.str [97, 108, 119, 97, 121, 115])))) .nil)⟩
def d_body_lines : Def := ⟨PySem.Str.ofString "body_lines", [PySem.Str.ofString "body"], [PySem.Str.ofString "body", PySem.Str.ofString "found", PySem.Str.ofString "statement"], [], (.cons (.asg 1 (.lst .nil)) (.cons (.for (.nm 2) (.of (.var 0)) (.cons (.ifs (.cmp .eq (.idx (.rd 2) (.cst (.int 0))) (.cst (.str [119, 104, 105, 108, 101]))) (.cons (.asg 1 (.bin .add (.bin .add (.bin .add (.rd 1) (.lst (.cons (.bin .add (.cst (.str [119, 104, 105, 108, 101, 32])) (.call 19 (.val (.idx (.rd 2) (.cst (.int 1))) .nil))) .nil))) (.call 20 (.val (.idx (.rd 2) (.cst (.int 2))) .nil))) (.lst (.cons (.cst (.str [101, 110, 100])) .nil)))) .nil) (.cons (.ifs (.cmp .eq (.idx (.rd 2) (.cst (.int 0))) (.cst (.str [105, 102]))) (.cons (.asg 1 (.bin .add (.bin .add (.rd 1) (.lst (.cons (.bin .add (.cst (.str [105, 102, 32])) (.call 19 (.val (.idx (.rd 2) (.cst (.int 1))) .nil))) .nil))) (.call 20 (.val (.idx (.rd 2) (.cst (.int 2))) .nil)))) (.cons (.asg 1 (.bin .add (.bin .add (.bin .add (.rd 1) (.lst (.cons (.cst (.str [101, 108, 115, 101])) .nil))) (.call 20 (.val (.idx (.rd 2) (.cst (.int 3))) .nil))) (.lst (.cons (.cst (.str [101, 110, 100])) .nil)))) .nil)) (.cons (.asg 1 (.bin .add (.rd 1) (.lst (.cons (.mt .join (.cst (.str [32])) (.rd 2)) .nil)))) .nil)) .nil)) .nil)) (.cons (.retv 1) .nil)))⟩
def d_lines_of : Def := ⟨PySem.Str.ofString "lines_of", [PySem.Str.ofString "loop"], [PySem.Str.ofString "loop", PySem.Str.ofString "first", PySem.Str.ofString "worths", PySem.Str.ofString "begin", PySem.Str.ofString "body", PySem.Str.ofString "worth"], [], (.cons (.asgT (.tp (.cons (.nm 2) (.cons (.nm 3) (.cons (.nm 4) .nil)))) (.var 0)) (.cons (.asg 1 (.bin .add (.cst (.str [119, 111, 114, 116, 104, 115, 32])) (.mt .join (.cst (.str [32])) (.lc (.b1 .str (.rd 5)) (.nm 5) (.of (.var 2)) .nil [5])))) (.cons (.ret (.bin .add (.lst (.cons (.var 1) (.cons (.bin .add (.cst (.str [98, 101, 103, 105, 110, 32])) (.ite (.isN (.rd 3)) (.cst (.str [110, 111, 110, 101])) (.b1 .str (.rd 3)))) .nil))) (.call 20 (.val (.var 4) .nil)))) .nil)))⟩
def d_other_facts : Def := ⟨PySem.Str.ofString "other_facts", [PySem.Str.ofString "fact"], [PySem.Str.ofString "fact", PySem.Str.ofString "found", PySem.Str.ofString "step"], [], (.cons (.ifs (.cmp .nin (.idx (.rd 0) (.cst (.int 0))) (.tup (.cons (.cst (.str [115, 117, 109])) (.cons (.cst (.str [115, 105, 122, 101])) .nil)))) (.cons (.ret (.lst .nil)) .nil) .nil) (.cons (.asg 1 (.lc (.tup (.cons (.idx (.rd 0) (.cst (.int 0))) (.cons (.idx (.rd 0) (.cst (.int 1))) (.cons (.bin .add (.idx (.rd 0) (.cst (.int 2))) (.rd 2)) .nil)))) (.nm 2) (.of (.tup (.cons (.neg (.cst (.int 1))) (.cons (.cst (.int 1)) .nil)))) (.cons (.call 0 (.val (.bin .add (.idx (.rd 0) (.cst (.int 2))) (.rd 2)) (.val (.cst (.int 0)) (.val (.cst (.int 9)) .nil)))) .nil) [2])) (.cons (.ret (.bin .add (.rd 1) (.lst (.cons (.tup (.cons (.idx (.rd 0) (.cst (.int 0))) (.cons (.ite (.cmp .eq (.idx (.rd 0) (.cst (.int 1))) (.cst (.str [111, 118, 101, 114]))) (.cst (.str [105, 115])) (.cst (.str [111, 118, 101, 114]))) (.cons (.idx (.rd 0) (.cst (.int 2))) .nil)))) .nil)))) .nil)))⟩
def d_other_tests : Def := ⟨PySem.Str.ofString "other_tests", [PySem.Str.ofString "tests"], [PySem.Str.ofString "tests", PySem.Str.ofString "found", PySem.Str.ofString "at", PySem.Str.ofString "some", PySem.Str.ofString "wanted", PySem.Str.ofString "fact", PySem.Str.ofString "other", PySem.Str.ofString "test"], [], (.cons (.asg 1 (.lst .nil)) (.cons (.for (.tp (.cons (.nm 2) (.cons (.tp (.cons (.nm 4) (.cons (.nm 5) .nil))) .nil))) (.enu (.var 0)) (.cons (.asg 3 (.bin .add (.lst (.cons (.tup (.cons (.not (.rd 4)) (.cons (.var 5) .nil))) .nil)) (.lc (.tup (.cons (.var 4) (.cons (.var 6) .nil))) (.nm 6) (.of (.call 22 (.val (.var 5) .nil))) .nil [6]))) (.cons (.asg 1 (.bin .add (.rd 1) (.lc (.bin .add (.bin .add (.sli (.rd 0) .non (.som (.var 2))) (.tup (.cons (.var 7) .nil))) (.sli (.rd 0) (.som (.bin .add (.rd 2) (.cst (.int 1)))) .non)) (.nm 7) (.of (.var 3)) .nil [7]))) .nil))) (.cons (.retv 1) .nil)))⟩
def d_other_statements : Def := ⟨PySem.Str.ofString "other_statements", [PySem.Str.ofString "statement"], [PySem.Str.ofString "statement", PySem.Str.ofString "found", PySem.Str.ofString "at", PySem.Str.ofString "tests", PySem.Str.ofString "body"], [], (.cons (.ifs (.cmp .nin (.idx (.rd 0) (.cst (.int 0))) (.tup (.cons (.cst (.str [119, 104, 105, 108, 101])) (.cons (.cst (.str [105, 102])) .nil)))) (.cons (.ret (.lst .nil)) .nil) .nil) (.cons (.asg 1 (.lc (.bin .add (.tup (.cons (.idx (.rd 0) (.cst (.int 0))) (.cons (.var 3) .nil))) (.sli (.rd 0) (.som (.cst (.int 2))) .non)) (.nm 3) (.of (.call 23 (.val (.idx (.rd 0) (.cst (.int 1))) .nil))) .nil [3])) (.cons (.for (.nm 2) (.rng2 (.cst (.int 2)) (.b1 .len (.rd 0))) (.cons (.asg 1 (.bin .add (.rd 1) (.lc (.bin .add (.bin .add (.sli (.rd 0) .non (.som (.var 2))) (.tup (.cons (.var 4) .nil))) (.sli (.rd 0) (.som (.bin .add (.rd 2) (.cst (.int 1)))) .non)) (.nm 4) (.of (.call 25 (.val (.idx (.rd 0) (.rd 2)) .nil))) .nil [4]))) .nil)) (.cons (.retv 1) .nil))))⟩
def d_other_bodies : Def := ⟨PySem.Str.ofString "other_bodies", [PySem.Str.ofString "body"], [PySem.Str.ofString "body", PySem.Str.ofString "found", PySem.Str.ofString "at", PySem.Str.ofString "statement", PySem.Str.ofString "other"], [], (.cons (.asg 1 (.lst .nil)) (.cons (.for (.tp (.cons (.nm 2) (.cons (.nm 3) .nil))) (.enu (.var 0)) (.cons (.asg 1 (.bin .add (.rd 1) (.lst (.cons (.bin .add (.sli (.rd 0) .non (.som (.var 2))) (.sli (.rd 0) (.som (.bin .add (.rd 2) (.cst (.int 1)))) .non)) .nil)))) (.cons (.asg 1 (.bin .add (.rd 1) (.lc (.bin .add (.bin .add (.sli (.rd 0) .non (.som (.var 2))) (.tup (.cons (.var 4) .nil))) (.sli (.rd 0) (.som (.bin .add (.rd 2) (.cst (.int 1)))) .non)) (.nm 4) (.of (.call 24 (.val (.var 3) .nil))) .nil [4]))) (.cons (.ifs (.cmp .lt (.bin .add (.rd 2) (.cst (.int 1))) (.b1 .len (.rd 0))) (.cons (.asg 1 (.bin .add (.rd 1) (.lst (.cons (.bin .add (.bin .add (.sli (.rd 0) .non (.som (.var 2))) (.tup (.cons (.idx (.rd 0) (.bin .add (.rd 2) (.cst (.int 1)))) (.cons (.var 3) .nil)))) (.sli (.rd 0) (.som (.bin .add (.rd 2) (.cst (.int 2)))) .non)) .nil)))) .nil) .nil) .nil)))) (.cons (.retv 1) .nil)))⟩
def d_changed : Def := ⟨PySem.Str.ofString "changed", [PySem.Str.ofString "loop", PySem.Str.ofString "wish"], [PySem.Str.ofString "loop", PySem.Str.ofString "wish", PySem.Str.ofString "some", PySem.Str.ofString "found", PySem.Str.ofString "other", PySem.Str.ofString "worths", PySem.Str.ofString "begin", PySem.Str.ofString "body", PySem.Str.ofString "text"], [], (.cons (.asgT (.tp (.cons (.nm 5) (.cons (.nm 6) (.cons (.nm 7) .nil)))) (.var 0)) (.cons (.asg 2 (.bin .add (.lc (.tup (.cons (.var 5) (.cons (.var 6) (.cons (.var 4) .nil)))) (.nm 4) (.of (.call 25 (.val (.var 7) .nil))) .nil [4]) (.lst (.cons (.tup (.cons (.var 5) (.cons (.idx (.rd 1) (.cst (.int 3))) (.cons (.var 7) .nil)))) .nil)))) (.cons (.asg 3 (.dct .nil)) (.cons (.for (.nm 4) (.of (.var 2)) (.cons (.ifs (.and (.cons (.call 12 (.val (.var 4) .nil)) (.cons (.cmp .ne (.rd 4) (.rd 0)) .nil))) (.cons (.put 3 (.mt .join (.cst (.str [10])) (.call 21 (.val (.var 4) .nil))) (.var 4) false) .nil) .nil) .nil)) (.cons (.ret (.lc (.idx (.rd 3) (.rd 8)) (.nm 8) (.of (.b1 .sorted (.b1 .list (.rd 3)))) .nil [8])) .nil)))))⟩
def d_changes : Def := ⟨PySem.Str.ofString "changes", [PySem.Str.ofString "loop", PySem.Str.ofString "wish"], [PySem.Str.ofString "loop", PySem.Str.ofString "wish"], [], (.cons (.exp (.call 17 (.val (.var 0) (.val (.var 1) .nil)))) (.cons (.ret (.call 26 (.val (.var 0) (.val (.var 1) .nil)))) .nil))⟩
def l_source : Def := ⟨PySem.Str.ofString "_law_source", [PySem.Str.ofString "script", PySem.Str.ofString "k"], [PySem.Str.ofString "script", PySem.Str.ofString "k", PySem.Str.ofString "cell"], [], (.cons (.asg 2 (.cst (.int 0))) (.cons (.ifs (.cmp .lt (.rd 1) (.b1 .len (.rd 0))) (.cons (.asg 2 (.b1 .abs (.b1 .int (.idx (.rd 0) (.rd 1))))) .nil) .nil) (.cons (.ifs (.cmp .lt (.rd 2) (.bin .pow (.cst (.int 10)) (.cst (.int 18)))) (.cons (.ret (.lst (.cons (.cst (.int 0)) (.cons (.bin .add (.cst (.int 1)) (.bin .mod (.b1 .int (.bin .add (.bin .mul (.rd 2) (.cst (.int 7919))) (.bin .mul (.cst (.int 104729)) (.rd 1)))) (.cst (.int 2147483646)))) .nil)))) .nil) .nil) (.cons (.ret (.lst (.cons (.var 2) (.cons (.bin .add (.cst (.int 1)) (.bin .mod (.b1 .int (.bin .add (.rd 2) (.rd 1))) (.cst (.int 2147483646)))) .nil)))) .nil))))⟩
def l_draw : Def := ⟨PySem.Str.ofString "_law_draw", [PySem.Str.ofString "source", PySem.Str.ofString "many"], [PySem.Str.ofString "source", PySem.Str.ofString "many", PySem.Str.ofString "found"], [0], (.cons (.ifs (.cmp .gt (.idx (.rd 0) (.cst (.int 0))) (.cst (.int 0))) (.cons (.asg 2 (.bin .mod (.b1 .int (.idx (.rd 0) (.cst (.int 0)))) (.rd 1))) (.cons (.put 0 (.cst (.int 0)) (.bin .fdiv (.idx (.rd 0) (.cst (.int 0))) (.rd 1)) false) (.cons (.retv 2) .nil))) .nil) (.cons (.put 0 (.cst (.int 1)) (.bin .mod (.b1 .int (.bin .mul (.idx (.rd 0) (.cst (.int 1))) (.cst (.int 48271)))) (.cst (.int 2147483647))) false) (.cons (.ret (.bin .mod (.b1 .int (.bin .fdiv (.bin .mod (.b1 .int (.bin .mul (.idx (.rd 0) (.cst (.int 1))) (.idx (.rd 0) (.cst (.int 1))))) (.cst (.int 2147483629))) (.cst (.int 64)))) (.rd 1))) .nil)))⟩
def l_of : Def := ⟨PySem.Str.ofString "_law_of", [PySem.Str.ofString "source", PySem.Str.ofString "items"], [PySem.Str.ofString "source", PySem.Str.ofString "items"], [0], (.cons (.ret (.idx (.rd 1) (.call 29 (.mut 0 (.val (.b1 .len (.rd 1)) .nil))))) .nil)⟩
def l_worths : Def := ⟨PySem.Str.ofString "_law_worths", [PySem.Str.ofString "source"], [PySem.Str.ofString "source", PySem.Str.ofString "turn"], [0], (.cons (.ret (.b1 .tuple (.lc (.bin .add (.cst (.int 1)) (.call 29 (.mut 0 (.val (.cst (.int 3)) .nil)))) (.nm 1) (.rng (.bin .add (.cst (.int 1)) (.call 29 (.mut 0 (.val (.cst (.int 3)) .nil))))) .nil [1]))) .nil)⟩
def l_wish : Def := ⟨PySem.Str.ofString "_law_wish", [PySem.Str.ofString "source", PySem.Str.ofString "kind"], [PySem.Str.ofString "source", PySem.Str.ofString "kind", PySem.Str.ofString "kinds", PySem.Str.ofString "signs", PySem.Str.ofString "sign", PySem.Str.ofString "none"], [0], (.cons (.asg 2 (.lst (.cons (.cst (.str [108, 111, 110, 103, 101, 115, 116])) (.cons (.cst (.str [115, 104, 111, 114, 116, 101, 115, 116])) (.cons (.cst (.str [110, 117, 109, 98, 101, 114])) (.cons (.cst (.str [103, 114, 101, 97, 116, 101, 115, 116])) (.cons (.cst (.str [115, 109, 97, 108, 108, 101, 115, 116])) .nil))))))) (.cons (.asg 1 (.ite (.cmp .ne (.rd 1) (.cst (.str []))) (.var 1) (.call 30 (.mut 0 (.val (.var 2) .nil))))) (.cons (.asg 3 (.dct (.cons (.cst (.str [108, 111, 110, 103, 101, 115, 116])) (.cons (.lst (.cons (.cst (.str [109, 111, 115, 116])) (.cons (.cst (.str [106, 117, 115, 116])) .nil))) (.cons (.cst (.str [115, 104, 111, 114, 116, 101, 115, 116])) (.cons (.lst (.cons (.cst (.str [108, 101, 97, 115, 116])) (.cons (.cst (.str [106, 117, 115, 116])) .nil))) (.cons (.cst (.str [110, 117, 109, 98, 101, 114])) (.cons (.lst (.cons (.cst (.str [109, 111, 115, 116])) (.cons (.cst (.str [106, 117, 115, 116])) .nil))) .nil)))))))) (.cons (.asg 4 (.call 30 (.mut 0 (.val (.get (.rd 3) (.rd 1) (.lst (.cons (.cst (.str [115, 105, 122, 101])) .nil))) .nil)))) (.cons (.asg 5 (.ite (.cmp .inn (.rd 1) (.tup (.cons (.cst (.str [108, 111, 110, 103, 101, 115, 116])) (.cons (.cst (.str [103, 114, 101, 97, 116, 101, 115, 116])) .nil)))) (.call 30 (.mut 0 (.val (.lst (.cons (.cst .non) (.cons (.cst (.int 0)) (.cons (.neg (.cst (.int 1))) .nil)))) .nil))) (.cst .non))) (.cons (.ret (.tup (.cons (.var 1) (.cons (.var 4) (.cons (.call 30 (.mut 0 (.val (.lst (.cons (.cst (.int 1)) (.cons (.cst (.int 2)) (.cons (.cst (.int 3)) (.cons (.cst (.int 2)) (.cons (.cst (.int 4)) (.cons (.cst (.int 3)) (.cons (.cst (.int 5)) .nil)))))))) .nil))) (.cons (.ite (.cmp .eq (.rd 1) (.cst (.str [110, 117, 109, 98, 101, 114]))) (.cst (.int 0)) (.var 5)) .nil)))))) .nil))))))⟩
def l_small : Def := ⟨PySem.Str.ofString "_law_small", [PySem.Str.ofString "wish"], [PySem.Str.ofString "wish"], [], (.cons (.ret (.bin .add (.bin .add (.sli (.rd 0) .non (.som (.cst (.int 2)))) (.tup (.cons (.bin .add (.cst (.int 1)) (.bin .mod (.idx (.rd 0) (.cst (.int 2))) (.cst (.int 3)))) .nil))) (.sli (.rd 0) (.som (.cst (.int 3))) .non))) .nil)⟩
def l_loop_for : Def := ⟨PySem.Str.ofString "_law_loop_for", [PySem.Str.ofString "worths", PySem.Str.ofString "wish"], [PySem.Str.ofString "worths", PySem.Str.ofString "wish", PySem.Str.ofString "gone", PySem.Str.ofString "head", PySem.Str.ofString "what", PySem.Str.ofString "inner", PySem.Str.ofString "note", PySem.Str.ofString "tests", PySem.Str.ofString "kind", PySem.Str.ofString "sign", PySem.Str.ofString "number", PySem.Str.ofString "none"], [], (.cons (.asgT (.tp (.cons (.nm 8) (.cons (.nm 9) (.cons (.nm 10) (.cons (.nm 11) .nil))))) (.var 1)) (.cons (.asg 2 (.tup (.cons (.tup (.cons (.cst (.str [116, 97, 107, 101])) .nil)) (.cons (.tup (.cons (.cst (.str [108, 101, 102, 116])) .nil)) .nil)))) (.cons (.asg 3 (.tup (.cons (.tup (.cons (.cst (.str [97, 100, 100])) .nil)) (.cons (.tup (.cons (.cst (.str [114, 105, 103, 104, 116])) .nil)) .nil)))) (.cons (.ifs (.cmp .eq (.rd 9) (.cst (.str [108, 101, 97, 115, 116]))) (.cons (.asg 5 (.tup (.cons (.cst (.str [119, 104, 105, 108, 101])) (.cons (.tup (.cons (.tup (.cons (.cst (.bl true)) (.cons (.tup (.cons (.cst (.str [115, 117, 109])) (.cons (.cst (.str [111, 118, 101, 114])) (.cons (.bin .sub (.rd 10) (.cst (.int 1))) .nil)))) .nil))) .nil)) (.cons (.bin .add (.tup (.cons (.tup (.cons (.cst (.str [108, 101, 97, 115, 116])) (.cons (.cst (.str [115, 105, 122, 101])) .nil))) .nil)) (.rd 2)) .nil))))) (.cons (.ret (.tup (.cons (.var 0) (.cons (.var 11) (.cons (.tup (.cons (.tup (.cons (.cst (.str [119, 104, 105, 108, 101])) (.cons (.tup (.cons (.tup (.cons (.cst (.bl true)) (.cons (.tup (.cons (.cst (.str [97, 104, 101, 97, 100])) .nil)) .nil))) .nil)) (.cons (.bin .add (.rd 3) (.tup (.cons (.var 5) .nil))) .nil)))) .nil)) .nil))))) .nil)) .nil) (.cons (.asg 4 (.ite (.cmp .eq (.rd 9) (.cst (.str [115, 105, 122, 101]))) (.cst (.str [115, 105, 122, 101])) (.cst (.str [115, 117, 109])))) (.cons (.asg 5 (.tup (.cons (.cst (.str [119, 104, 105, 108, 101])) (.cons (.tup (.cons (.tup (.cons (.cst (.bl true)) (.cons (.tup (.cons (.var 4) (.cons (.cst (.str [111, 118, 101, 114])) (.cons (.var 10) .nil)))) .nil))) .nil)) (.cons (.var 2) .nil))))) (.cons (.asg 6 (.ite (.cmp .eq (.rd 8) (.cst (.str [108, 111, 110, 103, 101, 115, 116]))) (.tup (.cons (.cst (.str [109, 111, 115, 116])) (.cons (.cst (.str [115, 105, 122, 101])) .nil))) (.tup (.cons (.cst (.str [108, 101, 97, 115, 116])) (.cons (.cst (.str [115, 105, 122, 101])) .nil))))) (.cons (.ifs (.cmp .eq (.rd 8) (.cst (.str [110, 117, 109, 98, 101, 114]))) (.cons (.asg 6 (.tup (.cons (.cst (.str [99, 111, 117, 110, 116])) (.cons (.ite (.cmp .eq (.rd 9) (.cst (.str [109, 111, 115, 116]))) (.cst (.str [115, 105, 122, 101])) (.cst (.str [111, 110, 101]))) .nil)))) .nil) .nil) (.cons (.ifs (.cmp .inn (.rd 8) (.tup (.cons (.cst (.str [103, 114, 101, 97, 116, 101, 115, 116])) (.cons (.cst (.str [115, 109, 97, 108, 108, 101, 115, 116])) .nil)))) (.cons (.asg 6 (.tup (.cons (.ite (.cmp .eq (.rd 8) (.cst (.str [103, 114, 101, 97, 116, 101, 115, 116]))) (.cst (.str [109, 111, 115, 116])) (.cst (.str [108, 101, 97, 115, 116]))) (.cons (.cst (.str [115, 117, 109])) .nil)))) .nil) .nil) (.cons (.asg 7 (.ite (.cmp .eq (.rd 9) (.cst (.str [109, 111, 115, 116]))) (.tup (.cons (.tup (.cons (.cst (.bl true)) (.cons (.tup (.cons (.cst (.str [115, 105, 122, 101])) (.cons (.cst (.str [111, 118, 101, 114])) (.cons (.cst (.int 0)) .nil)))) .nil))) .nil)) (.tup (.cons (.tup (.cons (.cst (.bl true)) (.cons (.tup (.cons (.var 4) (.cons (.cst (.str [105, 115])) (.cons (.var 10) .nil)))) .nil))) .nil)))) (.cons (.ret (.tup (.cons (.var 0) (.cons (.var 11) (.cons (.tup (.cons (.tup (.cons (.cst (.str [119, 104, 105, 108, 101])) (.cons (.tup (.cons (.tup (.cons (.cst (.bl true)) (.cons (.tup (.cons (.cst (.str [97, 104, 101, 97, 100])) .nil)) .nil))) .nil)) (.cons (.bin .add (.rd 3) (.tup (.cons (.var 5) (.cons (.tup (.cons (.cst (.str [105, 102])) (.cons (.var 7) (.cons (.tup (.cons (.var 6) .nil)) (.cons (.tup .nil) .nil))))) .nil)))) .nil)))) .nil)) .nil))))) .nil)))))))))))⟩
def l_test : Def := ⟨PySem.Str.ofString "_law_test", [PySem.Str.ofString "source", PySem.Str.ofString "worths"], [PySem.Str.ofString "source", PySem.Str.ofString "worths", PySem.Str.ofString "way", PySem.Str.ofString "fact"], [0], (.cons (.asg 2 (.call 29 (.mut 0 (.val (.cst (.int 6)) .nil)))) (.cons (.asg 3 (.tup (.cons (.cst (.str [97, 104, 101, 97, 100])) .nil))) (.cons (.ifs (.cmp .inn (.rd 2) (.tup (.cons (.cst (.int 1)) (.cons (.cst (.int 2)) (.cons (.cst (.int 3)) .nil))))) (.cons (.asg 3 (.tup (.cons (.call 30 (.mut 0 (.val (.lst (.cons (.cst (.str [115, 117, 109])) (.cons (.cst (.str [115, 105, 122, 101])) .nil))) .nil))) (.cons (.call 30 (.mut 0 (.val (.lst (.cons (.cst (.str [111, 118, 101, 114])) (.cons (.cst (.str [111, 118, 101, 114])) (.cons (.cst (.str [105, 115])) .nil)))) .nil))) (.cons (.call 29 (.mut 0 (.val (.cst (.int 4)) .nil))) .nil))))) .nil) .nil) (.cons (.ifs (.cmp .eq (.rd 2) (.cst (.int 4))) (.cons (.asg 3 (.tup (.cons (.cst (.str [97, 116])) (.cons (.call 30 (.mut 0 (.val (.lst (.cons (.cst (.str [108, 101, 102, 116])) (.cons (.cst (.str [114, 105, 103, 104, 116])) .nil))) .nil))) (.cons (.idx (.cst (.str [97, 98, 99])) (.call 29 (.mut 0 (.val (.b1 .len (.rd 1)) .nil)))) .nil))))) .nil) .nil) (.cons (.ret (.tup (.cons (.cmp .gt (.call 29 (.mut 0 (.val (.cst (.int 4)) .nil))) (.cst (.int 0))) (.cons (.var 3) .nil)))) .nil)))))⟩
def l_tests : Def := ⟨PySem.Str.ofString "_law_tests", [PySem.Str.ofString "source", PySem.Str.ofString "worths"], [PySem.Str.ofString "source", PySem.Str.ofString "worths", PySem.Str.ofString "turn"], [0], (.cons (.ret (.b1 .tuple (.lc (.call 35 (.mut 0 (.val (.var 1) .nil))) (.nm 2) (.rng (.call 30 (.mut 0 (.val (.lst (.cons (.cst (.int 1)) (.cons (.cst (.int 1)) (.cons (.cst (.int 1)) (.cons (.cst (.int 2)) (.cons (.cst (.int 2)) (.cons (.cst (.int 0)) .nil))))))) .nil)))) .nil [2]))) .nil)⟩
def l_statement : Def := ⟨PySem.Str.ofString "_law_statement", [PySem.Str.ofString "source", PySem.Str.ofString "worths", PySem.Str.ofString "words", PySem.Str.ofString "deep"], [PySem.Str.ofString "source", PySem.Str.ofString "worths", PySem.Str.ofString "words", PySem.Str.ofString "deep", PySem.Str.ofString "way", PySem.Str.ofString "tests", PySem.Str.ofString "first", PySem.Str.ofString "word"], [0], (.cons (.asg 4 (.call 29 (.mut 0 (.val (.ite (.cmp .gt (.rd 3) (.cst (.int 1))) (.cst (.int 12)) (.cst (.int 8))) .nil)))) (.cons (.ifs (.cmp .lt (.rd 4) (.cst (.int 6))) (.cons (.ret (.tup (.cons (.call 30 (.mut 0 (.val (.lst (.cons (.cst (.str [97, 100, 100])) (.cons (.cst (.str [114, 105, 103, 104, 116])) (.cons (.cst (.str [97, 100, 100])) (.cons (.cst (.str [114, 105, 103, 104, 116])) (.cons (.cst (.str [116, 97, 107, 101])) (.cons (.cst (.str [108, 101, 102, 116])) .nil))))))) .nil))) .nil))) .nil) .nil) (.cons (.ifs (.cmp .lt (.rd 4) (.cst (.int 8))) (.cons (.asg 7 (.call 30 (.mut 0 (.val (.var 2) .nil)))) (.cons (.ret (.ite (.cmp .ne (.rd 7) (.cst (.str []))) (.tup (.cons (.var 7) (.cons (.call 30 (.mut 0 (.val (.lst (.cons (.cst (.str [115, 105, 122, 101])) (.cons (.ite (.cmp .eq (.rd 7) (.cst (.str [99, 111, 117, 110, 116]))) (.cst (.str [111, 110, 101])) (.cst (.str [115, 117, 109]))) .nil))) .nil))) .nil))) (.tup (.cons (.cst (.str [115, 116, 111, 112])) .nil)))) .nil)) .nil) (.cons (.asg 5 (.call 36 (.mut 0 (.val (.var 1) .nil)))) (.cons (.asg 6 (.call 38 (.mut 0 (.val (.var 1) (.val (.var 2) (.val (.bin .sub (.rd 3) (.cst (.int 1))) (.val (.cst (.int 4)) .nil))))))) (.cons (.ifs (.cmp .lt (.rd 4) (.cst (.int 11))) (.cons (.ret (.tup (.cons (.cst (.str [119, 104, 105, 108, 101])) (.cons (.var 5) (.cons (.var 6) .nil))))) .nil) .nil) (.cons (.ret (.tup (.cons (.cst (.str [105, 102])) (.cons (.var 5) (.cons (.var 6) (.cons (.call 38 (.mut 0 (.val (.var 1) (.val (.var 2) (.val (.bin .sub (.rd 3) (.cst (.int 1))) (.val (.cst (.int 2)) .nil)))))) .nil)))))) .nil)))))))⟩
def l_body : Def := ⟨PySem.Str.ofString "_law_body", [PySem.Str.ofString "source", PySem.Str.ofString "worths", PySem.Str.ofString "words", PySem.Str.ofString "deep", PySem.Str.ofString "most"], [PySem.Str.ofString "source", PySem.Str.ofString "worths", PySem.Str.ofString "words", PySem.Str.ofString "deep", PySem.Str.ofString "most", PySem.Str.ofString "turn"], [0], (.cons (.ret (.b1 .tuple (.lc (.call 37 (.mut 0 (.val (.var 1) (.val (.var 2) (.val (.var 3) .nil))))) (.nm 5) (.rng (.call 29 (.mut 0 (.val (.bin .add (.rd 4) (.cst (.int 1))) .nil)))) .nil [5]))) .nil)⟩
def l_size : Def := ⟨PySem.Str.ofString "_law_size", [PySem.Str.ofString "body"], [PySem.Str.ofString "body", PySem.Str.ofString "many", PySem.Str.ofString "statement", PySem.Str.ofString "inner"], [], (.cons (.asg 1 (.cst (.int 0))) (.cons (.for (.nm 2) (.of (.var 0)) (.cons (.asg 1 (.bin .add (.rd 1) (.cst (.int 1)))) (.cons (.for (.nm 3) (.of (.ite (.cmp .inn (.idx (.rd 2) (.cst (.int 0))) (.tup (.cons (.cst (.str [119, 104, 105, 108, 101])) (.cons (.cst (.str [105, 102])) .nil)))) (.sli (.rd 2) (.som (.cst (.int 2))) .non) (.tup .nil))) (.cons (.asg 1 (.bin .add (.rd 1) (.call 39 (.val (.var 3) .nil)))) .nil)) .nil))) (.cons (.retv 1) .nil)))⟩
def l_bent : Def := ⟨PySem.Str.ofString "_law_bent", [PySem.Str.ofString "source", PySem.Str.ofString "body"], [PySem.Str.ofString "source", PySem.Str.ofString "body", PySem.Str.ofString "statement", PySem.Str.ofString "place", PySem.Str.ofString "inner", PySem.Str.ofString "other", PySem.Str.ofString "at", PySem.Str.ofString "way", PySem.Str.ofString "tests", PySem.Str.ofString "wanted", PySem.Str.ofString "fact"], [0], (.cons (.ifs (.cmp .eq (.rd 1) (.tup .nil)) (.cons (.retv 1) .nil) .nil) (.cons (.par [6, 7] (.cons (.call 29 (.mut 0 (.val (.b1 .len (.rd 1)) .nil))) (.cons (.call 29 (.mut 0 (.val (.cst (.int 5)) .nil))) .nil))) (.cons (.asg 2 (.idx (.rd 1) (.rd 6))) (.cons (.ifs (.cmp .eq (.rd 7) (.cst (.int 0))) (.cons (.ret (.bin .add (.sli (.rd 1) .non (.som (.var 6))) (.sli (.rd 1) (.som (.bin .add (.rd 6) (.cst (.int 1)))) .non))) .nil) .nil) (.cons (.ifs (.cmp .eq (.rd 7) (.cst (.int 1))) (.cons (.ret (.bin .add (.bin .add (.bin .add (.sli (.rd 1) .non (.som (.var 6))) (.sli (.rd 1) (.som (.bin .add (.rd 6) (.cst (.int 1)))) (.som (.bin .add (.rd 6) (.cst (.int 2)))))) (.tup (.cons (.var 2) .nil))) (.sli (.rd 1) (.som (.bin .add (.rd 6) (.cst (.int 2)))) .non))) .nil) .nil) (.cons (.ifs (.cmp .nin (.idx (.rd 2) (.cst (.int 0))) (.tup (.cons (.cst (.str [119, 104, 105, 108, 101])) (.cons (.cst (.str [105, 102])) .nil)))) (.cons (.asg 5 (.call 30 (.mut 0 (.val (.lst (.cons (.tup (.cons (.cst (.str [97, 100, 100])) .nil)) (.cons (.tup (.cons (.cst (.str [114, 105, 103, 104, 116])) .nil)) (.cons (.tup (.cons (.cst (.str [116, 97, 107, 101])) .nil)) (.cons (.tup (.cons (.cst (.str [108, 101, 102, 116])) .nil)) (.cons (.var 2) .nil)))))) .nil)))) (.cons (.ret (.bin .add (.bin .add (.sli (.rd 1) .non (.som (.var 6))) (.tup (.cons (.var 5) .nil))) (.sli (.rd 1) (.som (.bin .add (.rd 6) (.cst (.int 1)))) .non))) .nil)) .nil) (.cons (.asg 3 (.bin .add (.cst (.int 2)) (.call 29 (.mut 0 (.val (.bin .sub (.b1 .len (.rd 2)) (.cst (.int 2))) .nil))))) (.cons (.ifs (.and (.cons (.cmp .eq (.rd 7) (.cst (.int 2))) (.cons (.cmp .ne (.idx (.rd 2) (.cst (.int 1))) (.tup .nil)) .nil))) (.cons (.asgT (.tp (.cons (.nm 9) (.cons (.nm 10) .nil))) (.idx (.idx (.rd 2) (.cst (.int 1))) (.cst (.int 0)))) (.cons (.ifs (.cmp .inn (.idx (.rd 10) (.cst (.int 0))) (.tup (.cons (.cst (.str [115, 117, 109])) (.cons (.cst (.str [115, 105, 122, 101])) .nil)))) (.cons (.asg 10 (.bin .add (.sli (.rd 10) .non (.som (.cst (.int 2)))) (.tup (.cons (.b2 .max (.cst (.int 0)) (.bin .add (.idx (.rd 10) (.cst (.int 2))) (.call 30 (.mut 0 (.val (.lst (.cons (.neg (.cst (.int 1))) (.cons (.cst (.int 1)) .nil))) .nil))))) .nil)))) .nil) .nil) (.cons (.asg 8 (.bin .add (.tup (.cons (.tup (.cons (.var 9) (.cons (.var 10) .nil))) .nil)) (.sli (.idx (.rd 2) (.cst (.int 1))) (.som (.cst (.int 1))) .non))) (.cons (.ret (.bin .add (.bin .add (.sli (.rd 1) .non (.som (.var 6))) (.tup (.cons (.bin .add (.tup (.cons (.idx (.rd 2) (.cst (.int 0))) (.cons (.var 8) .nil))) (.sli (.rd 2) (.som (.cst (.int 2))) .non)) .nil))) (.sli (.rd 1) (.som (.bin .add (.rd 6) (.cst (.int 1)))) .non))) .nil)))) .nil) (.cons (.asg 4 (.call 40 (.mut 0 (.val (.idx (.rd 2) (.rd 3)) .nil)))) (.cons (.asg 5 (.bin .add (.bin .add (.sli (.rd 2) .non (.som (.var 3))) (.tup (.cons (.var 4) .nil))) (.sli (.rd 2) (.som (.bin .add (.rd 3) (.cst (.int 1)))) .non))) (.cons (.ret (.bin .add (.bin .add (.sli (.rd 1) .non (.som (.var 6))) (.tup (.cons (.var 5) .nil))) (.sli (.rd 1) (.som (.bin .add (.rd 6) (.cst (.int 1)))) .non))) .nil)))))))))))⟩
def l_loop : Def := ⟨PySem.Str.ofString "_law_loop", [PySem.Str.ofString "source"], [PySem.Str.ofString "source", PySem.Str.ofString "words", PySem.Str.ofString "begin", PySem.Str.ofString "body", PySem.Str.ofString "worths", PySem.Str.ofString "way", PySem.Str.ofString "loop", PySem.Str.ofString "turn"], [0], (.cons (.par [4, 5] (.cons (.call 31 (.mut 0 .nil)) (.cons (.call 29 (.mut 0 (.val (.cst (.int 4)) .nil))) .nil))) (.cons (.ifs (.cmp .lt (.rd 5) (.cst (.int 3))) (.cons (.asg 6 (.call 34 (.val (.var 4) (.val (.call 33 (.val (.call 32 (.mut 0 (.val (.cst (.str [])) .nil))) .nil)) .nil)))) (.cons (.for (.nm 7) (.rng (.var 5)) (.cons (.asg 6 (.bin .add (.sli (.rd 6) .non (.som (.cst (.int 2)))) (.tup (.cons (.call 40 (.mut 0 (.val (.idx (.rd 6) (.cst (.int 2))) .nil))) .nil)))) .nil)) (.cons (.ret (.ite (.cmp .le (.call 39 (.val (.idx (.rd 6) (.cst (.int 2))) .nil)) (.cst (.int 20))) (.var 6) (.tup (.cons (.var 4) (.cons (.cst (.int 0)) (.cons (.tup .nil) .nil)))))) .nil))) .nil) (.cons (.asg 1 (.call 30 (.mut 0 (.val (.lst (.cons (.lst (.cons (.cst (.str [99, 111, 117, 110, 116])) (.cons (.cst (.str [])) .nil))) (.cons (.lst (.cons (.cst (.str [109, 111, 115, 116])) (.cons (.cst (.str [108, 101, 97, 115, 116])) .nil))) (.cons (.lst (.cons (.cst (.str [109, 111, 115, 116])) (.cons (.cst (.str [])) .nil))) .nil)))) .nil)))) (.cons (.asg 2 (.ite (.cmp .nin (.cst (.str [99, 111, 117, 110, 116])) (.rd 1)) (.call 30 (.mut 0 (.val (.lst (.cons (.cst (.int 0)) (.cons (.cst (.int 1)) (.cons (.cst .non) (.cons (.neg (.cst (.int 1))) (.cons (.cst (.int 9)) .nil)))))) .nil))) (.call 30 (.mut 0 (.val (.lst (.cons (.cst (.int 0)) (.cons (.neg (.cst (.int 1))) (.cons (.cst (.int 5)) .nil)))) .nil))))) (.cons (.asg 3 (.tup (.cons (.tup (.cons (.cst (.str [119, 104, 105, 108, 101])) (.cons (.tup (.cons (.tup (.cons (.cst (.bl true)) (.cons (.tup (.cons (.cst (.str [97, 104, 101, 97, 100])) .nil)) .nil))) .nil)) (.cons (.call 38 (.mut 0 (.val (.var 4) (.val (.var 1) (.val (.cst (.int 2)) (.val (.cst (.int 6)) .nil)))))) .nil)))) .nil))) (.cons (.asg 3 (.ite (.cmp .eq (.call 29 (.mut 0 (.val (.cst (.int 3)) .nil))) (.cst (.int 0))) (.bin .add (.rd 3) (.call 38 (.mut 0 (.val (.var 4) (.val (.var 1) (.val (.cst (.int 2)) (.val (.cst (.int 2)) .nil))))))) (.var 3))) (.cons (.ret (.tup (.cons (.var 4) (.cons (.var 2) (.cons (.ite (.cmp .le (.call 39 (.val (.var 3) .nil)) (.cst (.int 20))) (.var 3) (.tup .nil)) .nil))))) .nil)))))))⟩
def l_lines : Def := ⟨PySem.Str.ofString "_law_lines", [PySem.Str.ofString "body"], [PySem.Str.ofString "body", PySem.Str.ofString "found", PySem.Str.ofString "statement", PySem.Str.ofString "rows", PySem.Str.ofString "wanted", PySem.Str.ofString "fact", PySem.Str.ofString "item"], [], (.cons (.asg 1 (.lst .nil)) (.cons (.for (.nm 2) (.of (.var 0)) (.cons (.ifs (.cmp .nin (.idx (.rd 2) (.cst (.int 0))) (.tup (.cons (.cst (.str [119, 104, 105, 108, 101])) (.cons (.cst (.str [105, 102])) .nil)))) (.cons (.app 1 (.mt .join (.cst (.str [32])) (.b1 .list (.rd 2)))) .nil) (.cons (.asg 3 (.lst .nil)) (.cons (.for (.tp (.cons (.nm 4) (.cons (.nm 5) .nil))) (.of (.idx (.rd 2) (.cst (.int 1)))) (.cons (.app 3 (.bin .add (.bin .mul (.cst (.str [110, 111, 116, 32])) (.b1 .int (.not (.rd 4)))) (.mt .join (.cst (.str [32])) (.lc (.b1 .str (.rd 6)) (.nm 6) (.of (.var 5)) .nil [6])))) .nil)) (.cons (.app 1 (.bin .add (.bin .add (.idx (.rd 2) (.cst (.int 0))) (.cst (.str [32]))) (.ite (.cmp .ne (.rd 3) (.lst .nil)) (.mt .join (.cst (.str [44, 32])) (.rd 3)) (.cst (.str [97, 108, 119, 97, 121, 115]))))) (.cons (.asg 1 (.bin .add (.rd 1) (.call 42 (.val (.idx (.rd 2) (.cst (.int 2))) .nil)))) (.cons (.ifs (.cmp .eq (.idx (.rd 2) (.cst (.int 0))) (.cst (.str [105, 102]))) (.cons (.asg 1 (.bin .add (.bin .add (.rd 1) (.lst (.cons (.cst (.str [101, 108, 115, 101])) .nil))) (.call 42 (.val (.idx (.rd 2) (.cst (.int 3))) .nil)))) .nil) .nil) (.cons (.app 1 (.cst (.str [101, 110, 100]))) .nil))))))) .nil)) (.cons (.retv 1) .nil)))⟩
def l_text : Def := ⟨PySem.Str.ofString "_law_text", [PySem.Str.ofString "loop"], [PySem.Str.ofString "loop", PySem.Str.ofString "rows", PySem.Str.ofString "worths", PySem.Str.ofString "begin", PySem.Str.ofString "body", PySem.Str.ofString "worth"], [], (.cons (.asgT (.tp (.cons (.nm 2) (.cons (.nm 3) (.cons (.nm 4) .nil)))) (.var 0)) (.cons (.asg 1 (.lst (.cons (.bin .add (.cst (.str [119, 111, 114, 116, 104, 115, 32])) (.mt .join (.cst (.str [32])) (.lc (.b1 .str (.rd 5)) (.nm 5) (.of (.var 2)) .nil [5]))) .nil))) (.cons (.app 1 (.bin .add (.cst (.str [98, 101, 103, 105, 110, 32])) (.ite (.isN (.rd 3)) (.cst (.str [110, 111, 110, 101])) (.b1 .str (.rd 3))))) (.cons (.ret (.mt .join (.cst (.str [10])) (.bin .add (.rd 1) (.call 42 (.val (.var 4) .nil))))) .nil))))⟩
def l_facts : Def := ⟨PySem.Str.ofString "_law_facts", [PySem.Str.ofString "fact"], [PySem.Str.ofString "fact", PySem.Str.ofString "found", PySem.Str.ofString "number"], [], (.cons (.ifs (.cmp .nin (.idx (.rd 0) (.cst (.int 0))) (.tup (.cons (.cst (.str [115, 117, 109])) (.cons (.cst (.str [115, 105, 122, 101])) .nil)))) (.cons (.ret (.lst .nil)) .nil) .nil) (.cons (.asg 1 (.lc (.bin .add (.sli (.rd 0) .non (.som (.cst (.int 2)))) (.tup (.cons (.var 2) .nil))) (.nm 2) (.of (.tup (.cons (.bin .sub (.idx (.rd 0) (.cst (.int 2))) (.cst (.int 1))) (.cons (.bin .add (.idx (.rd 0) (.cst (.int 2))) (.cst (.int 1))) .nil)))) (.cons (.chn .le .le (.cst (.int 0)) (.rd 2) (.cst (.int 9))) .nil) [2])) (.cons (.ret (.bin .add (.rd 1) (.lst (.cons (.tup (.cons (.idx (.rd 0) (.cst (.int 0))) (.cons (.idx (.dct (.cons (.cst (.str [105, 115])) (.cons (.cst (.str [111, 118, 101, 114])) (.cons (.cst (.str [111, 118, 101, 114])) (.cons (.cst (.str [105, 115])) .nil))))) (.idx (.rd 0) (.cst (.int 1)))) (.cons (.idx (.rd 0) (.cst (.int 2))) .nil)))) .nil)))) .nil)))⟩
def l_changed : Def := ⟨PySem.Str.ofString "_law_changed", [PySem.Str.ofString "body"], [PySem.Str.ofString "body", PySem.Str.ofString "found", PySem.Str.ofString "at", PySem.Str.ofString "statement", PySem.Str.ofString "some", PySem.Str.ofString "spot", PySem.Str.ofString "test", PySem.Str.ofString "inner", PySem.Str.ofString "wanted", PySem.Str.ofString "fact", PySem.Str.ofString "tests", PySem.Str.ofString "other"], [], (.cons (.asg 1 (.lst .nil)) (.cons (.for (.tp (.cons (.nm 2) (.cons (.nm 3) .nil))) (.enu (.var 0)) (.cons (.app 1 (.bin .add (.sli (.rd 0) .non (.som (.var 2))) (.sli (.rd 0) (.som (.bin .add (.rd 2) (.cst (.int 1)))) .non))) (.cons (.ifs (.cmp .gt (.rd 2) (.cst (.int 0))) (.cons (.app 1 (.bin .add (.bin .add (.sli (.rd 0) .non (.som (.bin .sub (.rd 2) (.cst (.int 1))))) (.tup (.cons (.var 3) (.cons (.idx (.rd 0) (.bin .sub (.rd 2) (.cst (.int 1)))) .nil)))) (.sli (.rd 0) (.som (.bin .add (.rd 2) (.cst (.int 1)))) .non))) .nil) .nil) (.cons (.asg 4 (.lst .nil)) (.cons (.ifs (.cmp .inn (.idx (.rd 3) (.cst (.int 0))) (.tup (.cons (.cst (.str [119, 104, 105, 108, 101])) (.cons (.cst (.str [105, 102])) .nil)))) (.cons (.for (.tp (.cons (.nm 5) (.cons (.tp (.cons (.nm 8) (.cons (.nm 9) .nil))) .nil))) (.enu (.idx (.rd 3) (.cst (.int 1)))) (.cons (.for (.nm 6) (.of (.bin .add (.lst (.cons (.tup (.cons (.not (.rd 8)) (.cons (.var 9) .nil))) .nil)) (.lc (.tup (.cons (.var 8) (.cons (.var 11) .nil))) (.nm 11) (.of (.call 44 (.val (.var 9) .nil))) .nil [11]))) (.cons (.asg 10 (.bin .add (.bin .add (.sli (.idx (.rd 3) (.cst (.int 1))) .non (.som (.var 5))) (.tup (.cons (.var 6) .nil))) (.sli (.idx (.rd 3) (.cst (.int 1))) (.som (.bin .add (.rd 5) (.cst (.int 1)))) .non))) (.cons (.app 4 (.bin .add (.tup (.cons (.idx (.rd 3) (.cst (.int 0))) (.cons (.var 10) .nil))) (.sli (.rd 3) (.som (.cst (.int 2))) .non))) .nil))) .nil)) (.cons (.for (.nm 5) (.rng2 (.cst (.int 2)) (.b1 .len (.rd 3))) (.cons (.for (.nm 7) (.of (.call 45 (.val (.idx (.rd 3) (.rd 5)) .nil))) (.cons (.app 4 (.bin .add (.bin .add (.sli (.rd 3) .non (.som (.var 5))) (.tup (.cons (.var 7) .nil))) (.sli (.rd 3) (.som (.bin .add (.rd 5) (.cst (.int 1)))) .non))) .nil)) .nil)) .nil)) .nil) (.cons (.asg 1 (.bin .add (.rd 1) (.lc (.bin .add (.bin .add (.sli (.rd 0) .non (.som (.var 2))) (.tup (.cons (.var 11) .nil))) (.sli (.rd 0) (.som (.bin .add (.rd 2) (.cst (.int 1)))) .non)) (.nm 11) (.of (.var 4)) .nil [11]))) .nil)))))) (.cons (.retv 1) .nil)))⟩
def l_changes : Def := ⟨PySem.Str.ofString "_law_changes", [PySem.Str.ofString "loop", PySem.Str.ofString "wish"], [PySem.Str.ofString "loop", PySem.Str.ofString "wish", PySem.Str.ofString "found", PySem.Str.ofString "other", PySem.Str.ofString "good", PySem.Str.ofString "text", PySem.Str.ofString "body"], [], (.cons (.asg 2 (.dct .nil)) (.cons (.for (.nm 3) (.of (.bin .add (.lc (.bin .add (.sli (.rd 0) .non (.som (.cst (.int 2)))) (.tup (.cons (.var 6) .nil))) (.nm 6) (.of (.call 45 (.val (.idx (.rd 0) (.cst (.int 2))) .nil))) .nil [6]) (.lst (.cons (.tup (.cons (.idx (.rd 0) (.cst (.int 0))) (.cons (.idx (.rd 1) (.cst (.int 3))) (.cons (.idx (.rd 0) (.cst (.int 2))) .nil)))) .nil)))) (.cons (.asg 4 (.or (.cons (.cmp .nin (.cst (.str [99, 111, 117, 110, 116])) (.b1 .str (.idx (.rd 3) (.cst (.int 2))))) (.cons (.notN (.idx (.rd 3) (.cst (.int 1)))) .nil)))) (.cons (.ifs (.and (.cons (.cmp .ne (.rd 3) (.rd 0)) (.cons (.var 4) .nil))) (.cons (.put 2 (.call 43 (.val (.var 3) .nil)) (.var 3) false) .nil) .nil) .nil))) (.cons (.ret (.lc (.idx (.rd 2) (.rd 5)) (.nm 5) (.of (.b1 .sorted (.b1 .list (.rd 2)))) .nil [5])) .nil)))⟩
def d_law : Def := ⟨PySem.Str.ofString "law", [PySem.Str.ofString "script"], [PySem.Str.ofString "script", PySem.Str.ofString "k", PySem.Str.ofString "one", PySem.Str.ofString "due", PySem.Str.ofString "told", PySem.Str.ofString "source", PySem.Str.ofString "turn", PySem.Str.ofString "loop", PySem.Str.ofString "kind", PySem.Str.ofString "wish", PySem.Str.ofString "found"], [], (.cons (.for (.nm 1) (.rng (.bin .add (.cst (.int 1)) (.b2 .min (.b1 .len (.rd 0)) (.cst (.int 10))))) (.cons (.asg 5 (.call 28 (.val (.var 0) (.val (.var 1) .nil)))) (.cons (.for (.nm 6) (.rng (.cst (.int 3))) (.cons (.asg 7 (.call 41 (.mut 5 .nil))) (.cons (.asg 8 (.call 30 (.mut 5 (.val (.lst (.cons (.cst (.str [108, 111, 110, 103, 101, 115, 116])) (.cons (.cst (.str [115, 104, 111, 114, 116, 101, 115, 116])) (.cons (.cst (.str [103, 114, 101, 97, 116, 101, 115, 116])) (.cons (.cst (.str [115, 109, 97, 108, 108, 101, 115, 116])) .nil))))) .nil)))) (.cons (.asg 9 (.call 32 (.mut 5 (.val (.ite (.cmp .inn (.cst (.str [99, 111, 117, 110, 116])) (.b1 .str (.idx (.rd 7) (.cst (.int 2))))) (.cst (.str [110, 117, 109, 98, 101, 114])) (.var 8)) .nil)))) (.cons (.asg 10 (.call 27 (.val (.var 7) (.val (.var 9) .nil)))) (.cons (.ifs (.or (.cons (.cmp .ne (.rd 10) (.call 46 (.val (.var 7) (.val (.var 9) .nil)))) (.cons (.not (.isi .list (.rd 10))) .nil))) (.cons (.ret (.cst (.bl false))) .nil) .nil) .nil)))))) .nil))) (.cons (.asg 2 (.tup (.cons (.tup (.cons (.cst (.int 1)) .nil)) (.cons (.cst .non) (.cons (.tup (.cons (.tup (.cons (.cst (.str [115, 116, 111, 112])) .nil)) (.cons (.tup (.cons (.cst (.str [115, 116, 111, 112])) .nil)) (.cons (.tup (.cons (.cst (.str [119, 104, 105, 108, 101])) (.cons (.tup .nil) (.cons (.tup .nil) .nil)))) .nil)))) .nil))))) (.cons (.asg 3 (.lst (.cons (.tup (.cons (.cst (.str [98, 101, 103, 105, 110, 32, 45, 49])) (.cons (.idx (.rd 2) (.cst (.int 2))) .nil))) (.cons (.tup (.cons (.cst (.str [98, 101, 103, 105, 110, 32, 110, 111, 110, 101])) (.cons (.tup (.cons (.tup (.cons (.cst (.str [115, 116, 111, 112])) .nil)) (.cons (.tup (.cons (.cst (.str [115, 116, 111, 112])) .nil)) .nil))) .nil))) .nil)))) (.cons (.app 3 (.tup (.cons (.cst (.str [98, 101, 103, 105, 110, 32, 110, 111, 110, 101])) (.cons (.tup (.cons (.tup (.cons (.cst (.str [115, 116, 111, 112])) .nil)) (.cons (.tup (.cons (.cst (.str [119, 104, 105, 108, 101])) (.cons (.tup .nil) (.cons (.tup .nil) .nil)))) .nil))) .nil)))) (.cons (.app 3 (.tup (.cons (.cst (.str [98, 101, 103, 105, 110, 32, 110, 111, 110, 101])) (.cons (.tup (.cons (.tup (.cons (.cst (.str [115, 116, 111, 112])) .nil)) (.cons (.tup (.cons (.cst (.str [119, 104, 105, 108, 101])) (.cons (.tup .nil) (.cons (.tup .nil) .nil)))) (.cons (.tup (.cons (.cst (.str [115, 116, 111, 112])) .nil)) .nil)))) .nil)))) (.cons (.asg 4 (.call 27 (.val (.var 2) (.val (.tup (.cons (.cst (.str [108, 111, 110, 103, 101, 115, 116])) (.cons (.cst (.str [109, 111, 115, 116])) (.cons (.cst (.int 1)) (.cons (.neg (.cst (.int 1))) .nil))))) .nil)))) (.cons (.ret (.cmp .eq (.lc (.tup (.cons (.idx (.mt .split (.call 43 (.val (.var 7) .nil)) (.cst (.str [10]))) (.cst (.int 1))) (.cons (.idx (.rd 7) (.cst (.int 2))) .nil))) (.nm 7) (.of (.var 4)) .nil [7]) (.rd 3))) .nil)))))))⟩
def glos : List (PySem.Str × T) := [(PySem.Str.ofString "LETTERS", (.str [97, 98, 99])), (PySem.Str.ofString "PLAIN", (.tup [(.str [97, 100, 100]), (.str [116, 97, 107, 101]), (.str [114, 105, 103, 104, 116]), (.str [108, 101, 102, 116]), (.str [115, 116, 111, 112])])), (PySem.Str.ofString "MOST_STATEMENTS", (.int 20)), (PySem.Str.ofString "MOST_DEEP", (.int 4)), (PySem.Str.ofString "SIGNS", (.dic false [((.str [108, 111, 110, 103, 101, 115, 116]), (.tup [(.str [109, 111, 115, 116]), (.str [106, 117, 115, 116])])), ((.str [115, 104, 111, 114, 116, 101, 115, 116]), (.tup [(.str [108, 101, 97, 115, 116]), (.str [106, 117, 115, 116])])), ((.str [110, 117, 109, 98, 101, 114]), (.tup [(.str [109, 111, 115, 116]), (.str [106, 117, 115, 116])])), ((.str [103, 114, 101, 97, 116, 101, 115, 116]), (.tup [(.str [115, 105, 122, 101])])), ((.str [115, 109, 97, 108, 108, 101, 115, 116]), (.tup [(.str [115, 105, 122, 101])]))]))]
def prog : Prog := ⟨glos, ([d_is_number, d_is_among, d_is_worths, d_is_fact, d_are_tests, d_is_statement, d_is_body, d_bodies_of, d_listed, d_words_in, d_counts, d_is_begin] : List Def) ++ ([d_is_loop, d_is_wish, d_need_loop, d_need_wish, d_suits, d_need_suiting, d_fact_text, d_tests_text, d_body_lines, d_lines_of, d_other_facts, d_other_tests] : List Def) ++ ([d_other_statements, d_other_bodies, d_changed, d_changes, l_source, l_draw, l_of, l_worths, l_wish, l_small, l_loop_for, l_test] : List Def) ++ ([l_tests, l_statement, l_body, l_size, l_bent, l_loop, l_lines, l_text, l_facts, l_changed, l_changes, d_law] : List Def)⟩end ViLaw
namespace ViHead
open ViLaw Vi PySem PySem.Spec PyProof.Rows L2
def top (i : Nat) : Stmt := PySem.Challenge.pw_windowends_k18_single_changes.main.body.getD i (.Pass ⟨0, 0, 0, 0⟩)
def ed_is_number : He.DefD := ⟨("is_number", none), "is_number", "is_number", defArgs (top 11), defBody (top 11), defScope (top 11), [], []⟩
def ed_is_among : He.DefD := ⟨("is_among", none), "is_among", "is_among", defArgs (top 12), defBody (top 12), defScope (top 12), [], []⟩
def ed_is_worths : He.DefD := ⟨("is_worths", none), "is_worths", "is_worths", defArgs (top 13), defBody (top 13), defScope (top 13), [], []⟩
def ed_is_fact : He.DefD := ⟨("is_fact", none), "is_fact", "is_fact", defArgs (top 14), defBody (top 14), defScope (top 14), [], []⟩
def ed_are_tests : He.DefD := ⟨("are_tests", none), "are_tests", "are_tests", defArgs (top 15), defBody (top 15), defScope (top 15), [], []⟩
def ed_is_statement : He.DefD := ⟨("is_statement", none), "is_statement", "is_statement", defArgs (top 16), defBody (top 16), defScope (top 16), [], []⟩
def ed_is_body : He.DefD := ⟨("is_body", none), "is_body", "is_body", defArgs (top 17), defBody (top 17), defScope (top 17), [], []⟩
def ed_bodies_of : He.DefD := ⟨("bodies_of", none), "bodies_of", "bodies_of", defArgs (top 18), defBody (top 18), defScope (top 18), [], []⟩
def ed_listed : He.DefD := ⟨("listed", none), "listed", "listed", defArgs (top 19), defBody (top 19), defScope (top 19), [], []⟩
def ed_words_in : He.DefD := ⟨("words_in", none), "words_in", "words_in", defArgs (top 20), defBody (top 20), defScope (top 20), [], []⟩
def ed_counts : He.DefD := ⟨("counts", none), "counts", "counts", defArgs (top 21), defBody (top 21), defScope (top 21), [], []⟩
def ed_is_begin : He.DefD := ⟨("is_begin", none), "is_begin", "is_begin", defArgs (top 22), defBody (top 22), defScope (top 22), [], []⟩
def ed_is_loop : He.DefD := ⟨("is_loop", none), "is_loop", "is_loop", defArgs (top 23), defBody (top 23), defScope (top 23), [], []⟩
def ed_is_wish : He.DefD := ⟨("is_wish", none), "is_wish", "is_wish", defArgs (top 24), defBody (top 24), defScope (top 24), [], []⟩
def ed_need_loop : He.DefD := ⟨("need_loop", none), "need_loop", "need_loop", defArgs (top 25), defBody (top 25), defScope (top 25), [], []⟩
def ed_need_wish : He.DefD := ⟨("need_wish", none), "need_wish", "need_wish", defArgs (top 26), defBody (top 26), defScope (top 26), [], []⟩
def ed_suits : He.DefD := ⟨("suits", none), "suits", "suits", defArgs (top 28), defBody (top 28), defScope (top 28), [], []⟩
def ed_need_suiting : He.DefD := ⟨("need_suiting", none), "need_suiting", "need_suiting", defArgs (top 29), defBody (top 29), defScope (top 29), [], []⟩
def ed_fact_text : He.DefD := ⟨("fact_text", none), "fact_text", "fact_text", defArgs (top 31), defBody (top 31), defScope (top 31), [], []⟩
def ed_tests_text : He.DefD := ⟨("tests_text", none), "tests_text", "tests_text", defArgs (top 32), defBody (top 32), defScope (top 32), [], []⟩
def ed_body_lines : He.DefD := ⟨("body_lines", none), "body_lines", "body_lines", defArgs (top 33), defBody (top 33), defScope (top 33), [], []⟩
def ed_lines_of : He.DefD := ⟨("lines_of", none), "lines_of", "lines_of", defArgs (top 34), defBody (top 34), defScope (top 34), [], []⟩
def ed_other_facts : He.DefD := ⟨("other_facts", none), "other_facts", "other_facts", defArgs (top 36), defBody (top 36), defScope (top 36), [], []⟩
def ed_other_tests : He.DefD := ⟨("other_tests", none), "other_tests", "other_tests", defArgs (top 37), defBody (top 37), defScope (top 37), [], []⟩
def ed_other_statements : He.DefD := ⟨("other_statements", none), "other_statements", "other_statements", defArgs (top 38), defBody (top 38), defScope (top 38), [], []⟩
def ed_other_bodies : He.DefD := ⟨("other_bodies", none), "other_bodies", "other_bodies", defArgs (top 39), defBody (top 39), defScope (top 39), [], []⟩
def ed_changed : He.DefD := ⟨("changed", none), "changed", "changed", defArgs (top 40), defBody (top 40), defScope (top 40), [], []⟩
def ed_changes : He.DefD := ⟨("changes", none), "changes", "changes", defArgs (top 41), defBody (top 41), defScope (top 41), [], []⟩
def el_source : He.DefD := ⟨("_law_source", none), "_law_source", "_law_source", defArgs (top 43), defBody (top 43), defScope (top 43), [], []⟩
def el_draw : He.DefD := ⟨("_law_draw", none), "_law_draw", "_law_draw", defArgs (top 44), defBody (top 44), defScope (top 44), [], []⟩
def el_of : He.DefD := ⟨("_law_of", none), "_law_of", "_law_of", defArgs (top 45), defBody (top 45), defScope (top 45), [], []⟩
def el_worths : He.DefD := ⟨("_law_worths", none), "_law_worths", "_law_worths", defArgs (top 46), defBody (top 46), defScope (top 46), [], []⟩
def el_wish : He.DefD := ⟨("_law_wish", none), "_law_wish", "_law_wish", defArgs (top 47), defBody (top 47), defScope (top 47), [], []⟩
def el_small : He.DefD := ⟨("_law_small", none), "_law_small", "_law_small", defArgs (top 48), defBody (top 48), defScope (top 48), [], []⟩
def el_loop_for : He.DefD := ⟨("_law_loop_for", none), "_law_loop_for", "_law_loop_for", defArgs (top 49), defBody (top 49), defScope (top 49), [], []⟩
def el_test : He.DefD := ⟨("_law_test", none), "_law_test", "_law_test", defArgs (top 50), defBody (top 50), defScope (top 50), [], []⟩
def el_tests : He.DefD := ⟨("_law_tests", none), "_law_tests", "_law_tests", defArgs (top 51), defBody (top 51), defScope (top 51), [], []⟩
def el_statement : He.DefD := ⟨("_law_statement", none), "_law_statement", "_law_statement", defArgs (top 52), defBody (top 52), defScope (top 52), [], []⟩
def el_body : He.DefD := ⟨("_law_body", none), "_law_body", "_law_body", defArgs (top 53), defBody (top 53), defScope (top 53), [], []⟩
def el_size : He.DefD := ⟨("_law_size", none), "_law_size", "_law_size", defArgs (top 54), defBody (top 54), defScope (top 54), [], []⟩
def el_bent : He.DefD := ⟨("_law_bent", none), "_law_bent", "_law_bent", defArgs (top 55), defBody (top 55), defScope (top 55), [], []⟩
def el_loop : He.DefD := ⟨("_law_loop", none), "_law_loop", "_law_loop", defArgs (top 56), defBody (top 56), defScope (top 56), [], []⟩
def el_lines : He.DefD := ⟨("_law_lines", none), "_law_lines", "_law_lines", defArgs (top 57), defBody (top 57), defScope (top 57), [], []⟩
def el_text : He.DefD := ⟨("_law_text", none), "_law_text", "_law_text", defArgs (top 58), defBody (top 58), defScope (top 58), [], []⟩
def el_facts : He.DefD := ⟨("_law_facts", none), "_law_facts", "_law_facts", defArgs (top 59), defBody (top 59), defScope (top 59), [], []⟩
def el_changed : He.DefD := ⟨("_law_changed", none), "_law_changed", "_law_changed", defArgs (top 60), defBody (top 60), defScope (top 60), [], []⟩
def el_changes : He.DefD := ⟨("_law_changes", none), "_law_changes", "_law_changes", defArgs (top 61), defBody (top 61), defScope (top 61), [], []⟩
def ed_law : He.DefD := ⟨("law", none), "law", "law", defArgs (top 62), defBody (top 62), defScope (top 62), [], []⟩
def fn : List He.DefD := ([ed_is_number, ed_is_among, ed_is_worths, ed_is_fact, ed_are_tests, ed_is_statement, ed_is_body, ed_bodies_of, ed_listed, ed_words_in, ed_counts, ed_is_begin] : List He.DefD) ++ ([ed_is_loop, ed_is_wish, ed_need_loop, ed_need_wish, ed_suits, ed_need_suiting, ed_fact_text, ed_tests_text, ed_body_lines, ed_lines_of, ed_other_facts, ed_other_tests] : List He.DefD) ++ ([ed_other_statements, ed_other_bodies, ed_changed, ed_changes, el_source, el_draw, el_of, el_worths, el_wish, el_small, el_loop_for, el_test] : List He.DefD) ++ ([el_tests, el_statement, el_body, el_size, el_bent, el_loop, el_lines, el_text, el_facts, el_changed, el_changes, ed_law] : List He.DefD)
theorem cd_is_number : DefC prog d_is_number ed_is_number := ⟨rfl, rfl, rfl, ⟨rfl, rfl, rfl, by decide +kernel, rfl, by decide +kernel, by decide +kernel⟩, by decide +kernel, fun _ _ _ _ _ _ us hl => match us, hl with | [_, _, _], _ => rfl⟩
theorem cd_is_among : DefC prog d_is_among ed_is_among := ⟨rfl, rfl, rfl, ⟨rfl, rfl, rfl, by decide +kernel, rfl, by decide +kernel, by decide +kernel⟩, by decide +kernel, fun _ _ _ _ _ _ us hl => match us, hl with | [_, _], _ => rfl⟩
theorem cd_is_worths : DefC prog d_is_worths ed_is_worths := ⟨rfl, rfl, rfl, ⟨rfl, rfl, rfl, by decide +kernel, rfl, by decide +kernel, by decide +kernel⟩, by decide +kernel, fun _ _ _ _ _ _ us hl => match us, hl with | [_], _ => rfl⟩
theorem cd_is_fact : DefC prog d_is_fact ed_is_fact := ⟨rfl, rfl, rfl, ⟨rfl, rfl, rfl, by decide +kernel, rfl, by decide +kernel, by decide +kernel⟩, by decide +kernel, fun _ _ _ _ _ _ us hl => match us, hl with | [_, _], _ => rfl⟩
theorem cd_are_tests : DefC prog d_are_tests ed_are_tests := ⟨rfl, rfl, rfl, ⟨rfl, rfl, rfl, by decide +kernel, rfl, by decide +kernel, by decide +kernel⟩, by decide +kernel, fun _ _ _ _ _ _ us hl => match us, hl with | [_, _], _ => rfl⟩
theorem cd_is_statement : DefC prog d_is_statement ed_is_statement := ⟨rfl, rfl, rfl, ⟨rfl, rfl, rfl, by decide +kernel, rfl, by decide +kernel, by decide +kernel⟩, by decide +kernel, fun _ _ _ _ _ _ us hl => match us, hl with | [_, _, _], _ => rfl⟩
theorem cd_is_body : DefC prog d_is_body ed_is_body := ⟨rfl, rfl, rfl, ⟨rfl, rfl, rfl, by decide +kernel, rfl, by decide +kernel, by decide +kernel⟩, by decide +kernel, fun _ _ _ _ _ _ us hl => match us, hl with | [_, _, _], _ => rfl⟩
theorem cd_bodies_of : DefC prog d_bodies_of ed_bodies_of := ⟨rfl, rfl, rfl, ⟨rfl, rfl, rfl, by decide +kernel, rfl, by decide +kernel, by decide +kernel⟩, by decide +kernel, fun _ _ _ _ _ _ us hl => match us, hl with | [_], _ => rfl⟩
theorem cd_listed : DefC prog d_listed ed_listed := ⟨rfl, rfl, rfl, ⟨rfl, rfl, rfl, by decide +kernel, rfl, by decide +kernel, by decide +kernel⟩, by decide +kernel, fun _ _ _ _ _ _ us hl => match us, hl with | [_], _ => rfl⟩
theorem cd_words_in : DefC prog d_words_in ed_words_in := ⟨rfl, rfl, rfl, ⟨rfl, rfl, rfl, by decide +kernel, rfl, by decide +kernel, by decide +kernel⟩, by decide +kernel, fun _ _ _ _ _ _ us hl => match us, hl with | [_], _ => rfl⟩
theorem cd_counts : DefC prog d_counts ed_counts := ⟨rfl, rfl, rfl, ⟨rfl, rfl, rfl, by decide +kernel, rfl, by decide +kernel, by decide +kernel⟩, by decide +kernel, fun _ _ _ _ _ _ us hl => match us, hl with | [_], _ => rfl⟩
theorem cd_is_begin : DefC prog d_is_begin ed_is_begin := ⟨rfl, rfl, rfl, ⟨rfl, rfl, rfl, by decide +kernel, rfl, by decide +kernel, by decide +kernel⟩, by decide +kernel, fun _ _ _ _ _ _ us hl => match us, hl with | [_], _ => rfl⟩
theorem cd_is_loop : DefC prog d_is_loop ed_is_loop := ⟨rfl, rfl, rfl, ⟨rfl, rfl, rfl, by decide +kernel, rfl, by decide +kernel, by decide +kernel⟩, by decide +kernel, fun _ _ _ _ _ _ us hl => match us, hl with | [_], _ => rfl⟩
theorem cd_is_wish : DefC prog d_is_wish ed_is_wish := ⟨rfl, rfl, rfl, ⟨rfl, rfl, rfl, by decide +kernel, rfl, by decide +kernel, by decide +kernel⟩, by decide +kernel, fun _ _ _ _ _ _ us hl => match us, hl with | [_], _ => rfl⟩
theorem cd_need_loop : DefC prog d_need_loop ed_need_loop := ⟨rfl, rfl, rfl, ⟨rfl, rfl, rfl, by decide +kernel, rfl, by decide +kernel, by decide +kernel⟩, by decide +kernel, fun _ _ _ _ _ _ us hl => match us, hl with | [_], _ => rfl⟩
theorem cd_need_wish : DefC prog d_need_wish ed_need_wish := ⟨rfl, rfl, rfl, ⟨rfl, rfl, rfl, by decide +kernel, rfl, by decide +kernel, by decide +kernel⟩, by decide +kernel, fun _ _ _ _ _ _ us hl => match us, hl with | [_], _ => rfl⟩
theorem cd_suits : DefC prog d_suits ed_suits := ⟨rfl, rfl, rfl, ⟨rfl, rfl, rfl, by decide +kernel, rfl, by decide +kernel, by decide +kernel⟩, by decide +kernel, fun _ _ _ _ _ _ us hl => match us, hl with | [_, _], _ => rfl⟩
theorem cd_need_suiting : DefC prog d_need_suiting ed_need_suiting := ⟨rfl, rfl, rfl, ⟨rfl, rfl, rfl, by decide +kernel, rfl, by decide +kernel, by decide +kernel⟩, by decide +kernel, fun _ _ _ _ _ _ us hl => match us, hl with | [_, _], _ => rfl⟩
theorem cd_fact_text : DefC prog d_fact_text ed_fact_text := ⟨rfl, rfl, rfl, ⟨rfl, rfl, rfl, by decide +kernel, rfl, by decide +kernel, by decide +kernel⟩, by decide +kernel, fun _ _ _ _ _ _ us hl => match us, hl with | [_, _], _ => rfl⟩
theorem cd_tests_text : DefC prog d_tests_text ed_tests_text := ⟨rfl, rfl, rfl, ⟨rfl, rfl, rfl, by decide +kernel, rfl, by decide +kernel, by decide +kernel⟩, by decide +kernel, fun _ _ _ _ _ _ us hl => match us, hl with | [_], _ => rfl⟩
theorem cd_body_lines : DefC prog d_body_lines ed_body_lines := ⟨rfl, rfl, rfl, ⟨rfl, rfl, rfl, by decide +kernel, rfl, by decide +kernel, by decide +kernel⟩, by decide +kernel, fun _ _ _ _ _ _ us hl => match us, hl with | [_], _ => rfl⟩
theorem cd_lines_of : DefC prog d_lines_of ed_lines_of := ⟨rfl, rfl, rfl, ⟨rfl, rfl, rfl, by decide +kernel, rfl, by decide +kernel, by decide +kernel⟩, by decide +kernel, fun _ _ _ _ _ _ us hl => match us, hl with | [_], _ => rfl⟩
theorem cd_other_facts : DefC prog d_other_facts ed_other_facts := ⟨rfl, rfl, rfl, ⟨rfl, rfl, rfl, by decide +kernel, rfl, by decide +kernel, by decide +kernel⟩, by decide +kernel, fun _ _ _ _ _ _ us hl => match us, hl with | [_], _ => rfl⟩
theorem cd_other_tests : DefC prog d_other_tests ed_other_tests := ⟨rfl, rfl, rfl, ⟨rfl, rfl, rfl, by decide +kernel, rfl, by decide +kernel, by decide +kernel⟩, by decide +kernel, fun _ _ _ _ _ _ us hl => match us, hl with | [_], _ => rfl⟩
theorem cd_other_statements : DefC prog d_other_statements ed_other_statements := ⟨rfl, rfl, rfl, ⟨rfl, rfl, rfl, by decide +kernel, rfl, by decide +kernel, by decide +kernel⟩, by decide +kernel, fun _ _ _ _ _ _ us hl => match us, hl with | [_], _ => rfl⟩
theorem cd_other_bodies : DefC prog d_other_bodies ed_other_bodies := ⟨rfl, rfl, rfl, ⟨rfl, rfl, rfl, by decide +kernel, rfl, by decide +kernel, by decide +kernel⟩, by decide +kernel, fun _ _ _ _ _ _ us hl => match us, hl with | [_], _ => rfl⟩
theorem cd_changed : DefC prog d_changed ed_changed := ⟨rfl, rfl, rfl, ⟨rfl, rfl, rfl, by decide +kernel, rfl, by decide +kernel, by decide +kernel⟩, by decide +kernel, fun _ _ _ _ _ _ us hl => match us, hl with | [_, _], _ => rfl⟩
theorem cd_changes : DefC prog d_changes ed_changes := ⟨rfl, rfl, rfl, ⟨rfl, rfl, rfl, by decide +kernel, rfl, by decide +kernel, by decide +kernel⟩, by decide +kernel, fun _ _ _ _ _ _ us hl => match us, hl with | [_, _], _ => rfl⟩
theorem cl_source : DefC prog l_source el_source := ⟨rfl, rfl, rfl, ⟨rfl, rfl, rfl, by decide +kernel, rfl, by decide +kernel, by decide +kernel⟩, by decide +kernel, fun _ _ _ _ _ _ us hl => match us, hl with | [_, _], _ => rfl⟩
theorem cl_draw : DefC prog l_draw el_draw := ⟨rfl, rfl, rfl, ⟨rfl, rfl, rfl, by decide +kernel, rfl, by decide +kernel, by decide +kernel⟩, by decide +kernel, fun _ _ _ _ _ _ us hl => match us, hl with | [_, _], _ => rfl⟩
theorem cl_of : DefC prog l_of el_of := ⟨rfl, rfl, rfl, ⟨rfl, rfl, rfl, by decide +kernel, rfl, by decide +kernel, by decide +kernel⟩, by decide +kernel, fun _ _ _ _ _ _ us hl => match us, hl with | [_, _], _ => rfl⟩
theorem cl_worths : DefC prog l_worths el_worths := ⟨rfl, rfl, rfl, ⟨rfl, rfl, rfl, by decide +kernel, rfl, by decide +kernel, by decide +kernel⟩, by decide +kernel, fun _ _ _ _ _ _ us hl => match us, hl with | [_], _ => rfl⟩
theorem cl_wish : DefC prog l_wish el_wish := ⟨rfl, rfl, rfl, ⟨rfl, rfl, rfl, by decide +kernel, rfl, by decide +kernel, by decide +kernel⟩, by decide +kernel, fun _ _ _ _ _ _ us hl => match us, hl with | [_, _], _ => rfl⟩
theorem cl_small : DefC prog l_small el_small := ⟨rfl, rfl, rfl, ⟨rfl, rfl, rfl, by decide +kernel, rfl, by decide +kernel, by decide +kernel⟩, by decide +kernel, fun _ _ _ _ _ _ us hl => match us, hl with | [_], _ => rfl⟩
theorem cl_loop_for : DefC prog l_loop_for el_loop_for := ⟨rfl, rfl, rfl, ⟨rfl, rfl, rfl, by decide +kernel, rfl, by decide +kernel, by decide +kernel⟩, by decide +kernel, fun _ _ _ _ _ _ us hl => match us, hl with | [_, _], _ => rfl⟩
theorem cl_test : DefC prog l_test el_test := ⟨rfl, rfl, rfl, ⟨rfl, rfl, rfl, by decide +kernel, rfl, by decide +kernel, by decide +kernel⟩, by decide +kernel, fun _ _ _ _ _ _ us hl => match us, hl with | [_, _], _ => rfl⟩
theorem cl_tests : DefC prog l_tests el_tests := ⟨rfl, rfl, rfl, ⟨rfl, rfl, rfl, by decide +kernel, rfl, by decide +kernel, by decide +kernel⟩, by decide +kernel, fun _ _ _ _ _ _ us hl => match us, hl with | [_, _], _ => rfl⟩
theorem cl_statement : DefC prog l_statement el_statement := ⟨rfl, rfl, rfl, ⟨rfl, rfl, rfl, by decide +kernel, rfl, by decide +kernel, by decide +kernel⟩, by decide +kernel, fun _ _ _ _ _ _ us hl => match us, hl with | [_, _, _, _], _ => rfl⟩
theorem cl_body : DefC prog l_body el_body := ⟨rfl, rfl, rfl, ⟨rfl, rfl, rfl, by decide +kernel, rfl, by decide +kernel, by decide +kernel⟩, by decide +kernel, fun _ _ _ _ _ _ us hl => match us, hl with | [_, _, _, _, _], _ => rfl⟩
theorem cl_size : DefC prog l_size el_size := ⟨rfl, rfl, rfl, ⟨rfl, rfl, rfl, by decide +kernel, rfl, by decide +kernel, by decide +kernel⟩, by decide +kernel, fun _ _ _ _ _ _ us hl => match us, hl with | [_], _ => rfl⟩
theorem cl_bent : DefC prog l_bent el_bent := ⟨rfl, rfl, rfl, ⟨rfl, rfl, rfl, by decide +kernel, rfl, by decide +kernel, by decide +kernel⟩, by decide +kernel, fun _ _ _ _ _ _ us hl => match us, hl with | [_, _], _ => rfl⟩
theorem cl_loop : DefC prog l_loop el_loop := ⟨rfl, rfl, rfl, ⟨rfl, rfl, rfl, by decide +kernel, rfl, by decide +kernel, by decide +kernel⟩, by decide +kernel, fun _ _ _ _ _ _ us hl => match us, hl with | [_], _ => rfl⟩
theorem cl_lines : DefC prog l_lines el_lines := ⟨rfl, rfl, rfl, ⟨rfl, rfl, rfl, by decide +kernel, rfl, by decide +kernel, by decide +kernel⟩, by decide +kernel, fun _ _ _ _ _ _ us hl => match us, hl with | [_], _ => rfl⟩
theorem cl_text : DefC prog l_text el_text := ⟨rfl, rfl, rfl, ⟨rfl, rfl, rfl, by decide +kernel, rfl, by decide +kernel, by decide +kernel⟩, by decide +kernel, fun _ _ _ _ _ _ us hl => match us, hl with | [_], _ => rfl⟩
theorem cl_facts : DefC prog l_facts el_facts := ⟨rfl, rfl, rfl, ⟨rfl, rfl, rfl, by decide +kernel, rfl, by decide +kernel, by decide +kernel⟩, by decide +kernel, fun _ _ _ _ _ _ us hl => match us, hl with | [_], _ => rfl⟩
theorem cl_changed : DefC prog l_changed el_changed := ⟨rfl, rfl, rfl, ⟨rfl, rfl, rfl, by decide +kernel, rfl, by decide +kernel, by decide +kernel⟩, by decide +kernel, fun _ _ _ _ _ _ us hl => match us, hl with | [_], _ => rfl⟩
theorem cl_changes : DefC prog l_changes el_changes := ⟨rfl, rfl, rfl, ⟨rfl, rfl, rfl, by decide +kernel, rfl, by decide +kernel, by decide +kernel⟩, by decide +kernel, fun _ _ _ _ _ _ us hl => match us, hl with | [_, _], _ => rfl⟩
theorem cd_law : DefC prog d_law ed_law := ⟨rfl, rfl, rfl, ⟨rfl, rfl, rfl, by decide +kernel, rfl, by decide +kernel, by decide +kernel⟩, by decide +kernel, fun _ _ _ _ _ _ us hl => match us, hl with | [_], _ => rfl⟩
theorem cfn : Paired (DefC prog) prog.defs fn := .cons cd_is_number (.cons cd_is_among (.cons cd_is_worths (.cons cd_is_fact (.cons cd_are_tests (.cons cd_is_statement (.cons cd_is_body (.cons cd_bodies_of (.cons cd_listed (.cons cd_words_in (.cons cd_counts (.cons cd_is_begin (.cons cd_is_loop (.cons cd_is_wish (.cons cd_need_loop (.cons cd_need_wish (.cons cd_suits (.cons cd_need_suiting (.cons cd_fact_text (.cons cd_tests_text (.cons cd_body_lines (.cons cd_lines_of (.cons cd_other_facts (.cons cd_other_tests (.cons cd_other_statements (.cons cd_other_bodies (.cons cd_changed (.cons cd_changes (.cons cl_source (.cons cl_draw (.cons cl_of (.cons cl_worths (.cons cl_wish (.cons cl_small (.cons cl_loop_for (.cons cl_test (.cons cl_tests (.cons cl_statement (.cons cl_body (.cons cl_size (.cons cl_bent (.cons cl_loop (.cons cl_lines (.cons cl_text (.cons cl_facts (.cons cl_changed (.cons cl_changes (.cons cd_law (.nil))))))))))))))))))))))))))))))))))))))))))))))))
def loose : List PySem.Str := (["is_number", "is_among", "is_worths", "is_fact", "are_tests", "is_statement", "is_body", "bodies_of", "listed", "words_in", "counts", "is_begin"] : List PySem.Str) ++ (["is_loop", "is_wish", "need_loop", "need_wish", "suits", "need_suiting", "fact_text", "tests_text", "body_lines", "lines_of", "other_facts", "other_tests"] : List PySem.Str) ++ (["other_statements", "other_bodies", "changed", "changes", "_law_source", "_law_draw", "_law_of", "_law_worths", "_law_wish", "_law_small", "_law_loop_for", "_law_test"] : List PySem.Str) ++ (["_law_tests", "_law_statement", "_law_body", "_law_size", "_law_bent", "_law_loop", "_law_lines", "_law_text", "_law_facts", "_law_changed", "_law_changes", "LoopError"] : List PySem.Str) ++ (["InvalidLoop", "InvalidWish", "Unlike", "LETTERS", "PLAIN", "MOST_STATEMENTS", "MOST_DEEP", "SIGNS"] : List PySem.Str)
abbrev RR : PySem.W.OpenRow := PySem.W.OpenLaw.row PySem.Challenge.rw_windowends_k18_single_changes
abbrev hk : PySem.W.Hook := hookV 4 prog fn
def ob (s : PySem.W.SharedT) : AlV := obsVG 4 prog fn (HandSHeadRun.getT s)
theorem ob_eq (s : PySem.W.SharedT) : ob s = hk.obs s.abs := obsVG_eq (HandSHeadRun.getT_eq s)
theorem runF (w : World) : HandSHeadRun.RunEq RR (PySem.W.view RR.prog [62]) hk ob 40000 loose (w.withFollow "special-get-raises" false) := by
  intro os
  kernel_rfl
theorem runT (w : World) : HandSHeadRun.RunEq RR (PySem.W.view RR.prog [62]) hk ob 40000 loose (w.withFollow "special-get-raises" true) := by
  intro os
  kernel_rfl
theorem run (w : World) : HandSHeadRun.RunEq RR (PySem.W.view RR.prog [62]) hk ob 40000 loose w := PySem.W.byRow2 "special-get-raises" (P := fun w => HandSHeadRun.RunEq RR (PySem.W.view RR.prog [62]) hk ob 40000 loose w) runF runT w
end ViHead
namespace ViLaw
end ViLaw

open Vi
local macro_rules | `(tactic| simp! only [$ts,*]) => `(tactic| simp -dsimp only [nil_p, fin1_p, fin2_p, ifs_p, ret_p, retN_p, exp_p, put_p, app_p, asg_p, asgT_p, par_p, for_p, pass_p, cnt_p, brk_p, cst_p, glo_p, tup_p, lst_p, dct_p, bin_p, neg_p, cmp_p, chn_p, isN_p, notN_p, and0_p, or0_p, and1_p, and_p, or1_p, or_p, not_p, ite_p, idx_p, sli_p, call_p, b1_p, b2_p, mt_p, isi_p, get_p, lc_p, lcBody_p, evT_nil, evT_p, evs_n, evs_c, evk_n, evk_c, eva_n, eva_v, eva_t, evo_n, evo_s, evp_n, evp_c, of_p, rng_p, rng2_p, enu_p, Pc_ret, Br_t, Br_f, Oa_s, Oa_n, Oa_map, Oa_bind, strong_none, testM_p, isRd, putQ_l, putQ_d, oInt, asg_nm, asg_tp, asgs_nil, asgs_cons, par_nil, par_cons, gt_z, gt_s, ib_z, ib_s, ou_n, ou_c, run_q, pad_n, pad_1, pad_2, args_n, args_c, sm_n, sm_c, var_q, mut_q, retv_q, opd_q, opd_none2, get_v, get_r, setVar_q, putM1_q, appM_q, isOwnL_q, isOwnX_q, ownL_l, ownX_l, ownX_d, ownL?_l, nxt_n, nxt_b, nxt_c, nxt_r, exs_q, lq_n, lq_b, lq_c, lq_r, forL_n, forL_c, gdct_q, gd_d, putM_q, puts_n, puts_c, own_n, own_b, own_i, own_s, own_t, own_l, own_d, fz_n, fz_b, fz_i, fz_s, fz_t, fz_l, fz_d, fz1_n, fz1_b, fz1_i, fz1_s, fz1_t, fz1_l, sh1_n, sh1_b, sh1_i, sh1_s, sh1_t, sh1_l, tru_n, tru_b, tru_i, tru_s, tru_t, tru_l, isi_int_n, isi_int_b, isi_int_i, isi_int_s, isi_int_t, isi_int_l, isi_bool_n, isi_bool_b, isi_bool_i, isi_bool_s, isi_bool_t, isi_bool_l, isi_str_n, isi_str_b, isi_str_i, isi_str_s, isi_str_t, isi_str_l, isi_tuple_n, isi_tuple_b, isi_tuple_i, isi_tuple_s, isi_tuple_t, isi_tuple_l, isi_list_n, isi_list_b, isi_list_i, isi_list_s, isi_list_t, isi_list_l, isNf_n, isNf_b, isNf_i, isNf_s, isNf_t, isNf_l, eqb_nn, eqb_nb, eqb_ni, eqb_ns, eqb_nt, eqb_nl, eqb_bn, eqb_bb, eqb_bi, eqb_bs, eqb_bt, eqb_bl, eqb_in, eqb_ib, eqb_ii, eqb_is, eqb_it, eqb_il, eqb_sn, eqb_sb, eqb_si, eqb_ss, eqb_st, eqb_sl, eqb_tn, eqb_tb, eqb_ti, eqb_ts, eqb_tt, eqb_tl, eqb_ln, eqb_lb, eqb_li, eqb_ls, eqb_lt, eqb_ll, eqbs_nn, eqbs_nc, eqbs_cn, eqbs_cc, dat_n, dat_b, dat_i, dat_s, dat_t, dat_l, dats_n, dats_c, flat_n, flat_b, flat_i, flat_s, flat_t, flat_l, cmp_eq, cmp_ne, cmp_lt_i, cmp_le_i, cmp_gt_i, cmp_ge_i, cmp_inn, cmp_nin, in_t, in_l, in_1, in_d, idx_t, idx_l, idx_s, idx_d, atx_0, atx_1, atx_2, atx_3, cutf_1, cutf_2, cutf_3, cutf_4, cutt_1, cutt_2, cutt_3, cutt_4, sli_s, sli_t, sli_l, len_s, len_t, len_l, int_i, int_b, int_s, str_s, str_i, abs_i, list_t, list_l, list_s, list_d, tuple_t, tuple_l, all_l, any_l, bool_b, min_ii, max_ii, add_ii, sub_ii, add_ss, add_tt, add_ll, mod_ii, neg_i, walk_t, walk_l, walk_s, seq_t, seq_l, tupq, strq, intq, dicq, kept_f, kept_t, join_q, index_q, split_q, getT_q, kind_i, kind_s, kindD_s, kindD_i, kindD_ns, kindD_ni, keq_ss, keq_ii, dget_n, dget_c, dhas_n, dhas_c, dput_q, arg_n, arg_l, arg_r, out_n, out_l, out_r, mu_n, mu_l, mu_r, nd_n, nd_1, nd_2, wipe_n, wipe_c, back_n, back_c, plain_n, plain_c, plain1_s, plain1_n, tgIn_n, tgIn_t, tgs_n, tgs_c, tgn_n, tgn_t, setL_q, ixn_0, ixn_1, ixn_2, ixn_3, sq_nn, sq_nc, sq_cn, sq_cc, ln_0, lt_0, ln_1, lt_1, ln_2, lt_2, ln_3, lt_3, ln_4, lt_4, ln_5, lt_5, ln_6, lt_6, ln_7, lt_7, ln_8, lt_8, ln_9, lt_9, ln_10, lt_10, ln_11, lt_11, ln_12, lt_12, ob_ff, ob_tf, ob_nf, oss_s, oss_n, List.set_cons_zero, List.set_cons_succ, List.set_nil, cond_true, cond_false, Bool.and_true, Bool.true_and, Bool.and_false, Bool.false_and, Bool.or_true, Bool.true_or, Bool.or_false, Bool.false_or, Bool.not_true, Bool.not_false, List.any_cons, List.any_nil, List.all_cons, List.all_nil, List.contains_cons, List.contains_nil, Option.map_some, Option.map_none, Option.bind_some, Option.bind_none, Option.getD_some, Option.getD_none, decide_true, decide_false, List.nil_append, List.cons_append, List.length_cons, List.length_nil, List.map_cons, List.map_nil, List.isEmpty_cons, List.isEmpty_nil, List.drop_succ_cons, List.drop_zero, List.take_succ_cons, List.take_zero, List.drop_nil, List.take_nil, bne_self_eq_false, beq_self_eq_true, Nat.reduceAdd, Nat.reduceSub, Nat.reduceLT, Nat.reduceLeDiff, Nat.reduceBEq, Nat.reduceMul, Nat.reduceEqDiff, Int.reduceBEq, Int.reduceLT, Int.reduceLE, Int.reduceAdd, Int.reduceSub, Int.reduceNeg, Int.reduceEq, Int.reduceToNat, Int.cast_ofNat_Int, reduceIte, bne, not_true_eq_false, not_false_eq_true, and_self, Bool.not_not, Bool.cond_true_left, Bool.true_beq, Bool.false_beq, $ts,*])

set_option maxRecDepth 100000
set_option maxHeartbeats 1000000
set_option linter.all false
namespace ViLaw
open Vi
def gl : List T := prog.glos.map Prod.snd
theorem tabs (n f : Nat) (d : Def) (ts : List T) (h : prog.defs[f]? = some d) : prog.tab (n + 1) f ts = d.run (Cfg.mk gl (prog.tab n)) ts := by
  rw [Prog.tab, h]; rfl


/-! ### the law's draws -/
def srcT (p : Int × Int) : T := .lst true [.int p.1, .int p.2]
theorem own_src (p : Int × Int) : Vi.own (srcT p) = true := rfl
def nextB (b : Int) : Int := b * 48271 % 2147483647
def drawV (p : Int × Int) (m : Int) : Int := if 0 < p.1 then p.1 % m else nextB p.2 * nextB p.2 % 2147483629 / 64 % m
def drawS (p : Int × Int) (m : Int) : Int × Int := if 0 < p.1 then (p.1 / m, p.2) else (p.1, nextB p.2)
theorem drawV_lt (p : Int × Int) (m : Int) (h : 0 < m) : 0 ≤ drawV p m ∧ drawV p m < m := by
  unfold drawV
  split
  · exact ⟨Int.emod_nonneg _ (by omega), Int.emod_lt_of_pos _ h⟩
  · exact ⟨Int.emod_nonneg _ (by omega), Int.emod_lt_of_pos _ h⟩
theorem in64_next (b : Int) : in64 (nextB b) = true := by
  unfold in64 nextB
  have h1 := Int.emod_nonneg (b * 48271) (b := 2147483647) (by omega)
  have h2 := Int.emod_lt_of_pos (b * 48271) (b := 2147483647) (by omega)
  rw [Bool.and_eq_true, decide_eq_true_eq, decide_eq_true_eq]
  omega
theorem in64_c : in64 48271 = true := by decide
theorem t_draw (n : Nat) (p : Int × Int) (m : Int) (h : 0 < m) (h2 : m < 1073741824) : prog.tab (n + 1) 29 [srcT p, .int m] = .ret (.int (drawV p m)) [some (srcT (drawS p m)), none] := by
  obtain ⟨a, b⟩ := p
  rw [tabs n 29 l_draw _ rfl]
  by_cases ha : 0 < a
  · simp [Def.run, exs_nil, exs_cons, ex_asg, ex_asgT, ex_par, ex_exp, ex_ifs, ex_ret, ex_retv, ex_put, ex_app, ev_var, ev_rd, ev_cst, ev_glo, ev_tup, ev_lst, ev_dct, ev_bin, ev_neg, ev_cmp, ev_chn, ev_isN, ev_notN, ev_and, ev_or, ev_not, ev_ite, ev_idx, ev_sli, ev_call, ev_b1, ev_b2, ev_mt, ev_isi, putM1, isOwnL, isOwnX, kept, setL, appM, parM, evAnd, evOr, evs, evT, eva, evi, evo, evk, callM, argsIn, muts, nodupN, outsIn, strong, isRd, opd, fin1, fin2, fin3, need, Vi.R.bind, Vi.O.get, isiT, tru, cmpT, idxT, atx, ixn, outsOf, getVar, rdVar, setVar, Vi.own, fz, testM, b1T, b2T, mtT, binT, negT, isNf, isNonT, inT, flat, eqb, asg, asgs, dat, dats, eqbs, List.range_succ, l_draw, srcT, drawV, drawS, ha, h, h2]
  · have e1 := in64_c
    have e2 := in64_next b
    unfold nextB at e2
    simp [Def.run, exs_nil, exs_cons, ex_asg, ex_asgT, ex_par, ex_exp, ex_ifs, ex_ret, ex_retv, ex_put, ex_app, ev_var, ev_rd, ev_cst, ev_glo, ev_tup, ev_lst, ev_dct, ev_bin, ev_neg, ev_cmp, ev_chn, ev_isN, ev_notN, ev_and, ev_or, ev_not, ev_ite, ev_idx, ev_sli, ev_call, ev_b1, ev_b2, ev_mt, ev_isi, putM1, isOwnL, isOwnX, kept, setL, appM, parM, evAnd, evOr, evs, evT, eva, evi, evo, evk, callM, argsIn, muts, nodupN, outsIn, strong, isRd, opd, fin1, fin2, fin3, need, Vi.R.bind, Vi.O.get, isiT, tru, cmpT, idxT, atx, ixn, outsOf, getVar, rdVar, setVar, Vi.own, fz, testM, b1T, b2T, mtT, binT, negT, isNf, isNonT, inT, flat, eqb, asg, asgs, dat, dats, eqbs, List.range_succ, l_draw, srcT, drawV, drawS, nextB, ha, h, h2, e1, e2]
theorem p_draw {n : Nat} {p : Int × Int} {m : Int} {Q : T → Env → Prop} (h : 0 < m) (h2 : m < 1073741824) (k : ∀ d q, 0 ≤ d → d < m → Q (.int d) [some (srcT q), none]) : Pc Q (prog.tab (n + 1) 29 [srcT p, .int m]) := by
  rw [t_draw n p m h h2]
  exact k _ _ (drawV_lt p m h).1 (drawV_lt p m h).2
theorem p_of {n : Nat} {p : Int × Int} {l : List T} {Q : T → Env → Prop} (h : 0 < l.length) (h2 : l.length ≤ 1000) (k : ∀ x q, x ∈ l → Q x [some (srcT q), none]) : Pc Q (prog.tab (n + 2) 30 [srcT p, .lst false l]) := by
  rw [tabs (n + 1) 30 l_of _ rfl]
  have b0 : l.length ≤ line := by show _ ≤ 16777216; omega
  simp! only [l_of, own_src]
  refine p_draw (by omega) (by omega) fun d q h3 h4 => ?_
  have hx : d.toNat < l.length := by omega
  simp! only [atx_at l d h3 h4, List.getElem?_eq_getElem hx]
  exact k _ _ (List.getElem_mem hx)
end ViLaw

set_option maxRecDepth 100000
set_option maxHeartbeats 1000000
set_option linter.all false
namespace ViLaw
open Vi
theorem s62 {i : Int} (h : 0 ≤ i) (h2 : i ≤ 1000000) : small62 i = true := by
  unfold small62; rw [Bool.and_eq_true, decide_eq_true_eq, decide_eq_true_eq]; omega
theorem rng_d {d : Int} (h : 0 ≤ d) (h2 : d ≤ 1000000) : rngT (.int 0) (.int d) = some (upto 0 d) := rngT_ok (by decide) (s62 h h2)
theorem upto_len {d : Int} (h : 0 ≤ d) : ((upto 0 d).length : Int) = d := by
  unfold upto; rw [List.length_map, List.length_range]; omega
def tupI (W : List Int) : T := .tup (W.map .int)
def WOk (W : List Int) : Prop := 1 ≤ W.length ∧ W.length ≤ 3 ∧ ∀ w ∈ W, 1 ≤ w ∧ w ≤ 3
def Tn (E : Int × Int → Option T → Env) (P : T → Prop) (o : Option T) (e : Env) : Prop := ∃ t q y, o = some t ∧ P t ∧ e = E q y
theorem Tn_i {E : Int × Int → Option T → Env} {P : T → Prop} {t : T} {e : Env} (q : Int × Int) (y : Option T) (h : P t) (he : e = E q y) : Tn E P (some t) e := ⟨t, q, y, rfl, h, he⟩
/-- a comprehension whose turns draw: its values have P, and there are as many as turns -/
theorem turns_d {own : List Nat} {body : T → M (Option T)} {Q : List T → Env → Prop} {l : List T} {e : Env} (E : Int × Int → Option T → Env) (P : T → Prop) (p : Int × Int) (y : Option T) (he : e = E p y) (hl : l.length ≤ line)
    (hb : ∀ x ∈ l, ∀ q y, Pt (Tn E P) (body x (wipe (E q y) own))) (hq : ∀ ts q y, ts.length = l.length → (∀ t ∈ ts, P t) → Q ts (E q y)) : Pt Q (turns own body l [] e) := by
  subst he
  refine turns_p (fun r acc e => (∃ q y, e = E q y) ∧ (∀ t ∈ acc, P t) ∧ acc.length + r.length = l.length ∧ ∀ x ∈ r, x ∈ l) l [] (E p y) ⟨⟨p, y, rfl⟩, fun t h => by simp at h, by simp, fun x h => h⟩ ?_ ?_ (by simpa using hl)
  · rintro x r acc e _ ⟨⟨q, y, rfl⟩, h1, h2, h3⟩
    refine Pt_mono (hb x (h3 x List.mem_cons_self) q y) fun o e h => ?_
    obtain ⟨t, q, y, rfl, ht, rfl⟩ := h
    refine ⟨⟨q, y, rfl⟩, fun u hu => ?_, by simp at h2 ⊢; omega, fun z hz => h3 z (List.mem_cons_of_mem _ hz)⟩
    rcases List.mem_append.mp hu with hu | hu
    · exact h1 u hu
    · simp at hu; subst hu; exact ht
  · rintro acc e ⟨⟨q, y, rfl⟩, h1, h2, _⟩
    exact hq acc q y (by simpa using h2) h1
theorem ints_of : ∀ ts : List T, (∀ t ∈ ts, ∃ i : Int, t = .int i ∧ 1 ≤ i ∧ i ≤ 3) → ∃ W : List Int, ts = W.map .int ∧ ∀ w ∈ W, 1 ≤ w ∧ w ≤ 3
  | [], _ => ⟨[], rfl, fun w h => by simp at h⟩
  | t :: ts, h => by
    obtain ⟨i, rfl, h1, h2⟩ := h t List.mem_cons_self
    obtain ⟨W, rfl, hW⟩ := ints_of ts fun u hu => h u (List.mem_cons_of_mem _ hu)
    exact ⟨i :: W, rfl, fun w hw => by
      rcases List.mem_cons.mp hw with rfl | hw
      · exact ⟨h1, h2⟩
      · exact hW w hw⟩
theorem p_worths {n : Nat} {p : Int × Int} {Q : T → Env → Prop} (k : ∀ W q, WOk W → Q (tupI W) [some (srcT q)]) : Pc Q (prog.tab (n + 2) 31 [srcT p]) := by
  rw [tabs (n + 1) 31 l_worths _ rfl]
  simp! only [l_worths, own_src]
  refine p_draw (by omega) (by omega) fun d q h1 h2 => ?_
  simp! only [rng_d (show 0 ≤ 1 + d by omega) (by omega)]
  refine turns_d (fun q y => [some (srcT q), y]) (fun t => ∃ i : Int, t = .int i ∧ 1 ≤ i ∧ i ≤ 3) q none rfl (by have := upto_len (show 0 ≤ 1 + d by omega); show _ ≤ 16777216; omega) (fun x _ q y => ?_) (fun ts q y hl ht => ?_)
  · simp! only []
    refine p_draw (by omega) (by omega) fun d q h1 h2 => ?_
    simp! only []
    exact Tn_i q _ ⟨_, rfl, by omega, by omega⟩ rfl
  · obtain ⟨W, rfl, hW⟩ := ints_of ts ht
    simp! only []
    refine k W q ⟨?_, ?_, hW⟩
    · rw [List.length_map] at hl; have := upto_len (show 0 ≤ 1 + d by omega); omega
    · rw [List.length_map] at hl; have := upto_len (show 0 ≤ 1 + d by omega); omega
end ViLaw

set_option maxRecDepth 100000
set_option maxHeartbeats 1000000
set_option linter.all false
namespace ViLaw
open Vi
/-! ### wishes -/
def kLong : List Nat := [108, 111, 110, 103, 101, 115, 116]
def kShort : List Nat := [115, 104, 111, 114, 116, 101, 115, 116]
def kNum : List Nat := [110, 117, 109, 98, 101, 114]
def kGreat : List Nat := [103, 114, 101, 97, 116, 101, 115, 116]
def kSmall : List Nat := [115, 109, 97, 108, 108, 101, 115, 116]
def sMost : List Nat := [109, 111, 115, 116]
def sLeast : List Nat := [108, 101, 97, 115, 116]
def sJust : List Nat := [106, 117, 115, 116]
def sSize : List Nat := [115, 105, 122, 101]
def wishT (k s : List Nat) (num : Int) (no : T) : T := .tup [.str k, .str s, .int num, no]
def NoOk (no : T) : Prop := no = .non ∨ no = .int 0 ∨ no = .int (-1)
def KOk (k s : List Nat) (no : T) : Prop :=
  (k = kLong ∧ (s = sMost ∨ s = sJust) ∧ NoOk no) ∨ (k = kShort ∧ (s = sLeast ∨ s = sJust) ∧ no = .non) ∨ (k = kNum ∧ (s = sMost ∨ s = sJust) ∧ no = .int 0) ∨ (k = kGreat ∧ s = sSize ∧ NoOk no) ∨ (k = kSmall ∧ s = sSize ∧ no = .non)
theorem num_ok {x : T} (h : x ∈ [T.int 1, .int 2, .int 3, .int 2, .int 4, .int 3, .int 5]) : ∃ num : Int, x = .int num ∧ 1 ≤ num ∧ num ≤ 5 := by
  simp only [List.mem_cons, List.not_mem_nil, or_false] at h
  rcases h with rfl | rfl | rfl | rfl | rfl | rfl | rfl <;> exact ⟨_, rfl, by decide, by decide⟩
def wRest : Ss := (.cons (.asg 3 (.dct (.cons (.cst (.str kLong)) (.cons (.lst (.cons (.cst (.str sMost)) (.cons (.cst (.str sJust)) .nil))) (.cons (.cst (.str kShort)) (.cons (.lst (.cons (.cst (.str sLeast)) (.cons (.cst (.str sJust)) .nil))) (.cons (.cst (.str kNum)) (.cons (.lst (.cons (.cst (.str sMost)) (.cons (.cst (.str sJust)) .nil))) .nil)))))))) (.cons (.asg 4 (.call 30 (.mut 0 (.val (.get (.rd 3) (.rd 1) (.lst (.cons (.cst (.str sSize)) .nil))) .nil)))) (.cons (.asg 5 (.ite (.cmp .inn (.rd 1) (.tup (.cons (.cst (.str kLong)) (.cons (.cst (.str kGreat)) .nil)))) (.call 30 (.mut 0 (.val (.lst (.cons (.cst .non) (.cons (.cst (.int 0)) (.cons (.neg (.cst (.int 1))) .nil)))) .nil))) (.cst .non))) (.cons (.ret (.tup (.cons (.var 1) (.cons (.var 4) (.cons (.call 30 (.mut 0 (.val (.lst (.cons (.cst (.int 1)) (.cons (.cst (.int 2)) (.cons (.cst (.int 3)) (.cons (.cst (.int 2)) (.cons (.cst (.int 4)) (.cons (.cst (.int 3)) (.cons (.cst (.int 5)) .nil)))))))) .nil))) (.cons (.ite (.cmp .eq (.rd 1) (.cst (.str kNum))) (.cst (.int 0)) (.var 5)) .nil)))))) .nil))))
theorem wish_rest {n : Nat} {p : Int × Int} {k : List Nat} {y : T} {Q : T → Env → Prop} (hk : k = kLong ∨ k = kShort ∨ k = kNum ∨ k = kGreat ∨ k = kSmall) (K : ∀ k' s num no q, k' = k → KOk k' s no → 1 ≤ num → num ≤ 5 → Q (wishT k' s num no) [some (srcT q), none]) (F : Fl → Env → Prop) (hF : ∀ t q a b c d x, Q t [some (srcT q), none] → F (.ret t) [some (srcT q), a, b, c, d, x]) :
    Pt F (exs ⟨gl, prog.tab (n + 2)⟩ wRest [some (srcT p), some (.str k), some y, none, none, none]) := by
  rcases hk with rfl | rfl | rfl | rfl | rfl
  · simp! only [wRest, own_src, kLong, kShort, kNum, kGreat, sMost, sLeast, sJust, sSize]
    refine p_of (by decide) (by decide) fun x q hx => ?_
    simp at hx
    rcases hx with rfl | rfl
    all_goals
      simp! only [own_src]
      refine p_of (by decide) (by decide) fun x q hx => ?_
      simp at hx
      rcases hx with rfl | rfl | rfl
      all_goals
        simp! only [own_src]
        refine p_of (by decide) (by decide) fun x q hx => ?_
        obtain ⟨num, rfl, h1, h2⟩ := num_ok hx
        simp! only [own_src]
        refine hF _ _ _ _ _ _ _ (K kLong _ num _ q rfl (.inl ⟨rfl, ?_, ?_⟩) h1 h2)
        · simp [sMost, sJust]
        · simp [NoOk]
  · simp! only [wRest, own_src, kLong, kShort, kNum, kGreat, sMost, sLeast, sJust, sSize]
    refine p_of (by decide) (by decide) fun x q hx => ?_
    simp at hx
    rcases hx with rfl | rfl
    all_goals
      simp! only [own_src]
      refine p_of (by decide) (by decide) fun x q hx => ?_
      obtain ⟨num, rfl, h1, h2⟩ := num_ok hx
      simp! only [own_src]
      refine hF _ _ _ _ _ _ _ (K kShort _ num _ q rfl (.inr (.inl ⟨rfl, ?_, rfl⟩)) h1 h2)
      simp [sLeast, sJust]
  · simp! only [wRest, own_src, kLong, kShort, kNum, kGreat, sMost, sLeast, sJust, sSize]
    refine p_of (by decide) (by decide) fun x q hx => ?_
    simp at hx
    rcases hx with rfl | rfl
    all_goals
      simp! only [own_src]
      refine p_of (by decide) (by decide) fun x q hx => ?_
      obtain ⟨num, rfl, h1, h2⟩ := num_ok hx
      simp! only [own_src]
      refine hF _ _ _ _ _ _ _ (K kNum _ num _ q rfl (.inr (.inr (.inl ⟨rfl, ?_, rfl⟩))) h1 h2)
      simp [sMost, sJust]
  · simp! only [wRest, own_src, kLong, kShort, kNum, kGreat, sMost, sLeast, sJust, sSize]
    refine p_of (by decide) (by decide) fun x q hx => ?_
    simp at hx
    subst hx
    simp! only [own_src]
    refine p_of (by decide) (by decide) fun x q hx => ?_
    simp at hx
    rcases hx with rfl | rfl | rfl
    all_goals
      simp! only [own_src]
      refine p_of (by decide) (by decide) fun x q hx => ?_
      obtain ⟨num, rfl, h1, h2⟩ := num_ok hx
      simp! only [own_src]
      refine hF _ _ _ _ _ _ _ (K kGreat _ num _ q rfl (.inr (.inr (.inr (.inl ⟨rfl, rfl, ?_⟩)))) h1 h2)
      simp [NoOk]
  · simp! only [wRest, own_src, kLong, kShort, kNum, kGreat, kSmall, sMost, sLeast, sJust, sSize]
    refine p_of (by decide) (by decide) fun x q hx => ?_
    simp at hx
    subst hx
    simp! only [own_src]
    refine p_of (by decide) (by decide) fun x q hx => ?_
    obtain ⟨num, rfl, h1, h2⟩ := num_ok hx
    simp! only [own_src]
    exact hF _ _ _ _ _ _ _ (K kSmall _ num _ q rfl (.inr (.inr (.inr (.inr ⟨rfl, rfl, rfl⟩)))) h1 h2)
/-- a wish of a kind -/
theorem p_wishK {n : Nat} {p : Int × Int} {k : List Nat} {Q : T → Env → Prop} (hk : k = kLong ∨ k = kShort ∨ k = kNum ∨ k = kGreat ∨ k = kSmall) (K : ∀ k' s num no q, k' = k → KOk k' s no → 1 ≤ num → num ≤ 5 → Q (wishT k' s num no) [some (srcT q), none]) : Pc Q (prog.tab (n + 3) 32 [srcT p, .str k]) := by
  rw [tabs (n + 2) 32 l_wish _ rfl]
  have hb : (k == []) = false := by rcases hk with rfl | rfl | rfl | rfl | rfl <;> rfl
  rw [show l_wish = ⟨_, _, _, _, .cons _ (.cons _ wRest)⟩ from rfl]
  simp! only [own_src, hb]
  refine wish_rest hk K _ fun t q a b c d x h => ?_
  simp! only []
  exact h
theorem p_wish {n : Nat} {p : Int × Int} {Q : T → Env → Prop} (K : ∀ k s num no q, KOk k s no → 1 ≤ num → num ≤ 5 → Q (wishT k s num no) [some (srcT q), none]) : Pc Q (prog.tab (n + 3) 32 [srcT p, .str []]) := by
  rw [tabs (n + 2) 32 l_wish _ rfl]
  rw [show l_wish = ⟨_, _, _, _, .cons _ (.cons _ wRest)⟩ from rfl]
  simp! only [own_src]
  refine p_of (by decide) (by decide) fun x q hx => ?_
  have hx : ∃ k, x = .str k ∧ (k = kLong ∨ k = kShort ∨ k = kNum ∨ k = kGreat ∨ k = kSmall) := by
    simp only [List.mem_cons, List.not_mem_nil, or_false] at hx
    rcases hx with rfl | rfl | rfl | rfl | rfl
    · exact ⟨kLong, rfl, .inl rfl⟩
    · exact ⟨kShort, rfl, .inr (.inl rfl)⟩
    · exact ⟨kNum, rfl, .inr (.inr (.inl rfl))⟩
    · exact ⟨kGreat, rfl, .inr (.inr (.inr (.inl rfl)))⟩
    · exact ⟨kSmall, rfl, .inr (.inr (.inr (.inr rfl)))⟩
  obtain ⟨k, rfl, hk⟩ := hx
  simp! only []
  refine wish_rest hk (fun k' s num no q _ h h1 h2 => K k' s num no q h h1 h2) _ fun t q a b c d x h => ?_
  simp! only []
  exact h
/-- a wish with a small number -/
theorem t_small (n : Nat) (k s : List Nat) (num : Int) (no : T) : prog.tab (n + 1) 33 [wishT k s num no] = .ret (wishT k s (1 + num % 3) no) [none] := by
  refine Pe_ret ?_
  rw [tabs n 33 l_small _ rfl]
  simp! only [l_small, wishT]
  exact ⟨rfl, rfl⟩
end ViLaw

set_option maxRecDepth 100000
set_option maxHeartbeats 1000000
set_option linter.all false
set_option autoImplicit false
namespace ViLaw
open Vi
/-! ### what a loop is -/
def wAhead : List Nat := [97, 104, 101, 97, 100]
def wAt : List Nat := [97, 116]
def wLeft : List Nat := [108, 101, 102, 116]
def wRight : List Nat := [114, 105, 103, 104, 116]
def wSum : List Nat := [115, 117, 109]
def wIs : List Nat := [105, 115]
def wOver : List Nat := [111, 118, 101, 114]
def wAdd : List Nat := [97, 100, 100]
def wTake : List Nat := [116, 97, 107, 101]
def wStop : List Nat := [115, 116, 111, 112]
def wCount : List Nat := [99, 111, 117, 110, 116]
def wOne : List Nat := [111, 110, 101]
def wWhile : List Nat := [119, 104, 105, 108, 101]
def wIf : List Nat := [105, 102]
inductive Fact (m : Nat) (B : Int) : T → Prop
  | ahead : Fact m B (.tup [.str wAhead])
  | num (w s : List Nat) (i : Int) (hw : w = wSum ∨ w = sSize) (hs : s = wIs ∨ s = wOver) (h0 : 0 ≤ i) (h1 : i ≤ B) : Fact m B (.tup [.str w, .str s, .int i])
  | at (e : List Nat) (c : Nat) (he : e = wLeft ∨ e = wRight) (hc : c < m) : Fact m B (.tup [.str wAt, .str e, .str [97 + c]])
def Test (m : Nat) (B : Int) (t : T) : Prop := ∃ b f, t = .tup [.bl b, .tup f] ∧ Fact m B (.tup f)
inductive Stm (N : List (List Nat)) (m : Nat) (B : Int) : Nat → T → Prop
  | plain (d : Nat) (w : List Nat) (h : w = wAdd ∨ w = wTake ∨ w = wRight ∨ w = wLeft ∨ w = wStop) : Stm N m B (d + 1) (.tup [.str w])
  | note (d : Nat) (w a : List Nat) (h : w = sMost ∨ w = sLeast) (hN : w ∈ N) (ha : a = sSize ∨ a = wSum) : Stm N m B (d + 1) (.tup [.str w, .str a])
  | count (d : Nat) (a : List Nat) (hN : wCount ∈ N) (ha : a = sSize ∨ a = wOne) : Stm N m B (d + 1) (.tup [.str wCount, .str a])
  | whl (d : Nat) (t b : List T) (ht : ∀ x ∈ t, Test m B x) (hl : t.length ≤ 3) (hb : ∀ x ∈ b, Stm N m B d x) (hl2 : b.length ≤ 8) : Stm N m B (d + 1) (.tup [.str wWhile, .tup t, .tup b])
  | iff (d : Nat) (t b c : List T) (ht : ∀ x ∈ t, Test m B x) (hl : t.length ≤ 3) (hb : ∀ x ∈ b, Stm N m B d x) (hl2 : b.length ≤ 8) (hc : ∀ x ∈ c, Stm N m B d x) (hl3 : c.length ≤ 8) : Stm N m B (d + 1) (.tup [.str wIf, .tup t, .tup b, .tup c])
def Body (N : List (List Nat)) (m : Nat) (B : Int) (d : Nat) (l : List T) : Prop := l.length ≤ 8 ∧ ∀ x ∈ l, Stm N m B d x
theorem Fact.mono {m : Nat} {B B' : Int} {t : T} (h : Fact m B t) (hB : B ≤ B') : Fact m B' t := by
  cases h with
  | ahead => exact .ahead
  | num w s i hw hs h0 h1 => exact .num w s i hw hs h0 (by omega)
  | «at» e c he hc => exact .at e c he hc
theorem Test.mono {m : Nat} {B B' : Int} {t : T} (h : Test m B t) (hB : B ≤ B') : Test m B' t := by
  obtain ⟨b, f, rfl, hf⟩ := h
  exact ⟨b, f, rfl, hf.mono hB⟩
theorem Stm.mono {N N' : List (List Nat)} {m : Nat} {B B' : Int} {d : Nat} {t : T} (h : Stm N m B d t) (hN : ∀ w ∈ N, w ∈ N') (hB : B ≤ B') : Stm N' m B' d t := by
  induction h with
  | plain d w h => exact .plain d w h
  | note d w a h hn ha => exact .note d w a h (hN _ hn) ha
  | count d a hn ha => exact .count d a (hN _ hn) ha
  | whl d t b ht hl hb hl2 ih => exact .whl d t b (fun x hx => (ht x hx).mono hB) hl (fun x hx => ih x hx) hl2
  | iff d t b c ht hl hb hl2 hc hl3 ih ih2 => exact .iff d t b c (fun x hx => (ht x hx).mono hB) hl (fun x hx => ih x hx) hl2 (fun x hx => ih2 x hx) hl3
theorem Stm.up {N : List (List Nat)} {m : Nat} {B : Int} {d : Nat} {t : T} (h : Stm N m B d t) : Stm N m B (d + 1) t := by
  induction h with
  | plain d w h => exact .plain _ w h
  | note d w a h hn ha => exact .note _ w a h hn ha
  | count d a hn ha => exact .count _ a hn ha
  | whl d t b ht hl hb hl2 ih => exact .whl _ t b ht hl (fun x hx => ih x hx) hl2
  | iff d t b c ht hl hb hl2 hc hl3 ih ih2 => exact .iff _ t b c ht hl (fun x hx => ih x hx) hl2 (fun x hx => ih2 x hx) hl3
/-! all statements, in their order -/
mutual
def lsS : T → List T
  | .tup (.str w :: t :: r) => .tup (.str w :: t :: r) :: (bif w == wWhile || w == wIf then lsB r else [])
  | t => [t]
def lsB : List T → List T
  | [] => []
  | .tup l :: r => lsL l ++ lsB r
  | _ :: r => lsB r
def lsL : List T → List T
  | [] => []
  | s :: r => lsS s ++ lsL r
end
def szL (l : List T) : Nat := (lsL l).length
def szB (l : List T) : Nat := (lsB l).length
/-- the first word -/
def hd : T → T
  | .tup (a :: _) => a
  | t => t
theorem szL_nil : szL [] = 0 := rfl
theorem lsL_cons (s : T) (r : List T) : lsL (s :: r) = lsS s ++ lsL r := by rw [lsL]
theorem lsB_cons (l : List T) (r : List T) : lsB (.tup l :: r) = lsL l ++ lsB r := by rw [lsB]
theorem lsB_nil : lsB [] = [] := by rw [lsB]
theorem lsS_plain (w : List Nat) : lsS (.tup [.str w]) = [.tup [.str w]] := by rw [lsS]; intro w t r h; simp at h
theorem lsS_note (w : List Nat) (a : T) : lsS (.tup [.str w, a]) = [.tup [.str w, a]] := by rw [lsS, lsB_nil]; cases (w == wWhile || w == wIf) <;> rfl
theorem lsS_whl (t : T) (b : List T) : lsS (.tup [.str wWhile, t, .tup b]) = .tup [.str wWhile, t, .tup b] :: lsL b := by
  rw [lsS, lsB_cons, lsB_nil, List.append_nil]; rfl
theorem lsS_if (t : T) (b c : List T) : lsS (.tup [.str wIf, t, .tup b, .tup c]) = .tup [.str wIf, t, .tup b, .tup c] :: (lsL b ++ lsL c) := by
  rw [lsS, lsB_cons, lsB_cons, lsB_nil, List.append_nil]; rfl
/-- a loop, as drawn -/
structure LoopOk (N : List (List Nat)) (W : List Int) (b : T) (body : List T) : Prop where
  w : WOk W
  n : (N = [wCount] ∧ ∃ i : Int, b = .int i ∧ -1 ≤ i ∧ i ≤ 9) ∨ (N = [sMost, sLeast] ∧ (b = .non ∨ ∃ i : Int, b = .int i ∧ -1 ≤ i ∧ i ≤ 9))
  b : Body N W.length 9 4 body
  s : szL body ≤ 20
def loopT (W : List Int) (b : T) (body : List T) : T := .tup [tupI W, b, .tup body]
/-! ### places -/
theorem split_at {α : Type} (l : List α) (i : Int) (h0 : 0 ≤ i) (h : i < l.length) : ∃ a x b, l = a ++ x :: b ∧ i = (a.length : Int) := by
  have h1 : i.toNat < l.length := by omega
  refine ⟨l.take i.toNat, l[i.toNat], l.drop (i.toNat + 1), ?_, ?_⟩
  · rw [← List.drop_eq_getElem_cons h1, List.take_append_drop]
  · rw [List.length_take]; omega
theorem atxA {α : Type} (a : List α) (x : α) (b : List α) : atx (a ++ x :: b) (a.length : Int) = some x := by
  rw [atx_at _ _ (by omega) (by rw [List.length_append, List.length_cons]; omega), Int.toNat_natCast]
  simp
theorem cutA {α : Type} (a b : List α) : cut (a ++ b) none (some (a.length : Int)) = a := by
  rw [cut_to]; simp
theorem cutB {α : Type} (a : List α) (x : α) (b : List α) : cut (a ++ x :: b) (some ((a.length : Int) + 1)) none = b := by
  rw [show ((a.length : Int) + 1) = ((a.length + 1 : Nat) : Int) by omega, cut_from, List.drop_append]
  simp
theorem cutD {α : Type} (a : List α) (x : α) (b : List α) : cut (a ++ x :: b) (some ((a.length : Int) + 2)) none = b.drop 1 := by
  rw [show ((a.length : Int) + 2) = ((a.length + 2 : Nat) : Int) by omega, cut_from, List.drop_append]
  simp
theorem cutC {α : Type} (a : List α) (x : α) (b : List α) : cut (a ++ x :: b) (some ((a.length : Int) + 1)) (some ((a.length : Int) + 2)) = b.take 1 := by
  unfold cut six
  have e1 : (if (a.length : Int) + 1 < 0 then max ((a.length : Int) + 1 + ((a ++ x :: b).length : Int)) 0 else min ((a.length : Int) + 1) ((a ++ x :: b).length : Int)).toNat = a.length + 1 := by
    rw [if_neg (by omega), List.length_append, List.length_cons]; omega
  have e2 : (if (a.length : Int) + 2 < 0 then max ((a.length : Int) + 2 + ((a ++ x :: b).length : Int)) 0 else min ((a.length : Int) + 2) ((a ++ x :: b).length : Int)).toNat = min (a.length + 2) (a.length + 1 + b.length) := by
    rw [if_neg (by omega), List.length_append, List.length_cons]; omega
  simp only [e1, e2]
  rw [List.drop_append, List.drop_eq_nil_of_le (by omega), show a.length + 1 - a.length = 1 by omega]
  simp only [List.drop_succ_cons, List.drop_zero, List.nil_append]
  cases b with
  | nil => simp
  | cons y b =>
    rw [List.length_cons, show min (a.length + 2) (a.length + 1 + (b.length + 1)) - (a.length + 1) = 1 by omega]
theorem dl {a b : Nat} (h : a + b ≤ 1000) : decide (a + b ≤ line) = true := by
  rw [decide_eq_true_eq]; show _ ≤ 16777216; omega
end ViLaw

set_option maxRecDepth 100000
set_option maxHeartbeats 1000000
set_option linter.all false
set_option autoImplicit false
namespace ViLaw
open Vi
/-! ### the loop for a wish -/
def noteN (k : List Nat) : List (List Nat) := if k = kNum then [wCount] else [sMost, sLeast]
theorem p_loop_for {n : Nat} {m : Nat} {W : List Int} {k s : List Nat} {num : Int} {no : T} {Q : T → Env → Prop} (h : KOk k s no) (h1 : 1 ≤ num) (h2 : num ≤ 3) (K : ∀ body, Body (noteN k) m 3 4 body → szL body ≤ 20 → Q (loopT W no body) [none, none]) : Pc Q (prog.tab (n + 1) 34 [tupI W, wishT k s num no]) := by
  rw [tabs n 34 l_loop_for _ rfl]
  have T1 : ∀ w, w = wSum ∨ w = sSize → Test m 3 (.tup [.bl true, .tup [.str w, .str wOver, .int num]]) := fun w hw => ⟨true, _, rfl, .num w wOver num hw (.inr rfl) (by omega) (by omega)⟩
  have T2 : ∀ w, w = wSum ∨ w = sSize → Test m 3 (.tup [.bl true, .tup [.str w, .str wIs, .int num]]) := fun w hw => ⟨true, _, rfl, .num w wIs num hw (.inl rfl) (by omega) (by omega)⟩
  have T3 : Test m 3 (.tup [.bl true, .tup [.str sSize, .str wOver, .int 0]]) := ⟨true, _, rfl, .num sSize wOver 0 (.inr rfl) (.inr rfl) (by omega) (by omega)⟩
  have T4 : Test m 3 (.tup [.bl true, .tup [.str wAhead]]) := ⟨true, _, rfl, .ahead⟩
  have T5 : Test m 3 (.tup [.bl true, .tup [.str wSum, .str wOver, .int (num - 1)]]) := ⟨true, _, rfl, .num wSum wOver (num - 1) (.inl rfl) (.inr rfl) (by omega) (by omega)⟩
  have P : ∀ (N : List (List Nat)) d w, (w = wAdd ∨ w = wTake ∨ w = wRight ∨ w = wLeft ∨ w = wStop) → Stm N m 3 (d + 1) (.tup [.str w]) := fun N d w h => .plain d w h
  have body1 : ∀ N t note, Test m 3 t → Stm N m 3 3 note → Body N m 3 4 [.tup [.str wWhile, .tup [.tup [.bl true, .tup [.str wAhead]]], .tup [.tup [.str wAdd], .tup [.str wRight], .tup [.str wWhile, .tup [t], .tup [.tup [.str wTake], .tup [.str wLeft]]], note]]] := by
    intro N t note ht hn
    refine ⟨by show 1 ≤ 8; omega, fun x hx => ?_⟩
    simp only [List.mem_singleton] at hx
    subst hx
    refine .whl 3 _ _ (fun x hx => ?_) (by show 1 ≤ 3; omega) (fun x hx => ?_) (by show 4 ≤ 8; omega)
    · simp only [List.mem_singleton] at hx; subst hx; exact T4
    · simp only [List.mem_cons, List.not_mem_nil, or_false] at hx
      rcases hx with rfl | rfl | rfl | rfl
      · exact P N 2 _ (.inl rfl)
      · exact P N 2 _ (.inr (.inr (.inl rfl)))
      · refine .whl 2 _ _ (fun x hx => ?_) (by show 1 ≤ 3; omega) (fun x hx => ?_) (by show 2 ≤ 8; omega)
        · simp only [List.mem_singleton] at hx; subst hx; exact ht
        · simp only [List.mem_cons, List.not_mem_nil, or_false] at hx
          rcases hx with rfl | rfl
          · exact P N 1 _ (.inr (.inl rfl))
          · exact P N 1 _ (.inr (.inr (.inr (.inl rfl))))
      · exact hn
  have iff1 : ∀ N t note, Test m 3 t → Stm N m 3 2 note → Stm N m 3 3 (.tup [.str wIf, .tup [t], .tup [note], .tup []]) := by
    intro N t note ht hn
    refine .iff 2 _ _ _ (fun x hx => ?_) (by show 1 ≤ 3; omega) (fun x hx => ?_) (by show 1 ≤ 8; omega) (fun x hx => by simp at hx) (by show 0 ≤ 8; omega)
    · simp only [List.mem_singleton] at hx; subst hx; exact ht
    · simp only [List.mem_singleton] at hx; subst hx; exact hn
  have body2 : ∀ N, sLeast ∈ N → Body N m 3 4 [.tup [.str wWhile, .tup [.tup [.bl true, .tup [.str wAhead]]], .tup [.tup [.str wAdd], .tup [.str wRight], .tup [.str wWhile, .tup [.tup [.bl true, .tup [.str wSum, .str wOver, .int (num - 1)]]], .tup [.tup [.str sLeast, .str sSize], .tup [.str wTake], .tup [.str wLeft]]]]]] := by
    intro N hN
    refine ⟨by show 1 ≤ 8; omega, fun x hx => ?_⟩
    simp only [List.mem_singleton] at hx
    subst hx
    refine .whl 3 _ _ (fun x hx => ?_) (by show 1 ≤ 3; omega) (fun x hx => ?_) (by show 3 ≤ 8; omega)
    · simp only [List.mem_singleton] at hx; subst hx; exact T4
    · simp only [List.mem_cons, List.not_mem_nil, or_false] at hx
      rcases hx with rfl | rfl | rfl
      · exact P N 2 _ (.inl rfl)
      · exact P N 2 _ (.inr (.inr (.inl rfl)))
      · refine .whl 2 _ _ (fun x hx => ?_) (by show 1 ≤ 3; omega) (fun x hx => ?_) (by show 3 ≤ 8; omega)
        · simp only [List.mem_singleton] at hx; subst hx; exact T5
        · simp only [List.mem_cons, List.not_mem_nil, or_false] at hx
          rcases hx with rfl | rfl | rfl
          · exact .note 1 _ _ (.inr rfl) hN (.inl rfl)
          · exact P N 1 _ (.inr (.inl rfl))
          · exact P N 1 _ (.inr (.inr (.inr (.inl rfl))))
  have szn : ∀ t u w a, szL [.tup [.str wWhile, .tup [.tup [.bl true, .tup [.str wAhead]]], .tup [.tup [.str wAdd], .tup [.str wRight], .tup [.str wWhile, .tup [t], .tup [.tup [.str wTake], .tup [.str wLeft]]], .tup [.str wIf, .tup [u], .tup [.tup [.str w, .str a]], .tup []]]]] ≤ 20 := by
    intro t u w a
    simp only [szL, lsL_cons, lsS_whl, lsS_if, lsS_plain, lsS_note, show lsL [] = [] from rfl, List.append_nil, List.length_append, List.length_cons, List.length_nil]
    omega
  have szm : ∀ t w a, szL [.tup [.str wWhile, .tup [.tup [.bl true, .tup [.str wAhead]]], .tup [.tup [.str wAdd], .tup [.str wRight], .tup [.str wWhile, .tup [t], .tup [.tup [.str w, .str a], .tup [.str wTake], .tup [.str wLeft]]]]]] ≤ 20 := by
    intro t w a
    simp only [szL, lsL_cons, lsS_whl, lsS_if, lsS_plain, lsS_note, show lsL [] = [] from rfl, List.append_nil, List.length_append, List.length_cons, List.length_nil]
    omega
  have nl : ∀ a, a = sSize ∨ a = wSum → ∀ w, (w = sMost ∨ w = sLeast) → Stm [sMost, sLeast] m 3 2 (.tup [.str w, .str a]) := fun a ha w hw => .note 1 w a hw (by rcases hw with rfl | rfl <;> simp) ha
  have nc : ∀ a, a = sSize ∨ a = wOne → Stm [wCount] m 3 2 (.tup [.str wCount, .str a]) := fun a ha => .count 1 a (by simp) ha
  rcases h with ⟨rfl, hs, hn⟩ | ⟨rfl, hs, rfl⟩ | ⟨rfl, hs, rfl⟩ | ⟨rfl, rfl, hn⟩ | ⟨rfl, rfl, rfl⟩
  · have hn2 : fz no = no ∧ Vi.own no = false := by rcases hn with rfl | rfl | rfl <;> exact ⟨rfl, rfl⟩
    rcases hs with rfl | rfl
    · simp! only [l_loop_for, wishT, hn2.1, hn2.2, kLong, sMost, dl (show 2 + 2 ≤ 1000 by decide), tupI]
      exact K _ (body1 _ _ _ (T1 _ (.inl rfl)) (iff1 _ _ _ T3 (nl _ (.inl rfl) _ (.inl rfl)))) (szn _ _ _ _)
    · simp! only [l_loop_for, wishT, hn2.1, hn2.2, kLong, sJust, dl (show 2 + 2 ≤ 1000 by decide), tupI]
      exact K _ (body1 _ _ _ (T1 _ (.inl rfl)) (iff1 _ _ _ (T2 _ (.inl rfl)) (nl _ (.inl rfl) _ (.inl rfl)))) (szn _ _ _ _)
  · rcases hs with rfl | rfl
    · simp! only [l_loop_for, wishT, kShort, sLeast, dl (show 2 + 1 ≤ 1000 by decide), dl (show 1 + 2 ≤ 1000 by decide), tupI]
      exact K _ (body2 _ (by simp [noteN, kShort, kNum])) (szm _ _ _)
    · simp! only [l_loop_for, wishT, kShort, sJust, dl (show 2 + 2 ≤ 1000 by decide), tupI]
      exact K _ (body1 _ _ _ (T1 _ (.inl rfl)) (iff1 _ _ _ (T2 _ (.inl rfl)) (nl _ (.inl rfl) _ (.inr rfl)))) (szn _ _ _ _)
  · rcases hs with rfl | rfl
    · simp! only [l_loop_for, wishT, kNum, sMost, dl (show 2 + 2 ≤ 1000 by decide), tupI]
      exact K _ (body1 _ _ _ (T1 _ (.inl rfl)) (iff1 _ _ _ T3 (nc _ (.inl rfl)))) (szn _ _ _ _)
    · simp! only [l_loop_for, wishT, kNum, sJust, dl (show 2 + 2 ≤ 1000 by decide), tupI]
      exact K _ (body1 _ _ _ (T1 _ (.inl rfl)) (iff1 _ _ _ (T2 _ (.inl rfl)) (nc _ (.inr rfl)))) (szn _ _ _ _)
  · have hn2 : fz no = no ∧ Vi.own no = false := by rcases hn with rfl | rfl | rfl <;> exact ⟨rfl, rfl⟩
    simp! only [l_loop_for, wishT, hn2.1, hn2.2, kGreat, sSize, dl (show 2 + 2 ≤ 1000 by decide), tupI]
    exact K _ (body1 _ _ _ (T1 _ (.inr rfl)) (iff1 _ _ _ (T2 _ (.inr rfl)) (nl _ (.inr rfl) _ (.inl rfl)))) (szn _ _ _ _)
  · simp! only [l_loop_for, wishT, kSmall, sSize, dl (show 2 + 2 ≤ 1000 by decide), tupI]
    exact K _ (body1 _ _ _ (T1 _ (.inr rfl)) (iff1 _ _ _ (T2 _ (.inr rfl)) (nl _ (.inr rfl) _ (.inr rfl)))) (szn _ _ _ _)
end ViLaw

set_option maxRecDepth 100000
set_option maxHeartbeats 1000000
set_option linter.all false
set_option autoImplicit false
namespace ViLaw
open Vi
/-! ### random tests and statements -/
theorem abc_at {d : Int} (h : 0 ≤ d) (h2 : d < 3) : atx [97, 98, 99] d = some (97 + d.toNat) := by
  have : d = 0 ∨ d = 1 ∨ d = 2 := by omega
  rcases this with rfl | rfl | rfl <;> rfl
theorem p_test {n : Nat} {p : Int × Int} {W : List Int} {Q : T → Env → Prop} (hW : WOk W) (K : ∀ b f q, Test W.length 3 (.tup [.bl b, .tup f]) → Q (.tup [.bl b, .tup f]) [some (srcT q), none]) : Pc Q (prog.tab (n + 3) 35 [srcT p, tupI W]) := by
  rw [tabs (n + 2) 35 l_test _ rfl]
  have hl1 := hW.1
  have hl2 := hW.2.1
  have hl : ((W.map T.int).length : Int) = W.length := by rw [List.length_map]
  simp! only [l_test, own_src]
  refine p_draw (by omega) (by omega) fun d q h1 h2 => ?_
  have hd : d = 0 ∨ d = 1 ∨ d = 2 ∨ d = 3 ∨ d = 4 ∨ d = 5 := by omega
  have fin : ∀ (f : List T) (q : Int × Int), Fact W.length 3 (.tup f) → ∀ (R : T → Env → Prop), (∀ d q, 0 ≤ d → d < 4 → Test W.length 3 (.tup [.bl (decide (0 < d)), .tup f]) → R (.int d) [some (srcT q), none]) → Pc R (prog.tab (n + 2) 29 [srcT q, .int 4]) := by
    intro f q hf R hR
    exact p_draw (by omega) (by omega) fun d q h1 h2 => hR d q h1 h2 ⟨_, _, rfl, hf⟩
  rcases hd with rfl | rfl | rfl | rfl | rfl | rfl
  case inr.inr.inr.inr.inl =>
    simp! only [own_src]
    refine p_of (by show 0 < 2; decide) (by show 2 ≤ 1000; decide) fun x q hx => ?_
    have hx : ∃ e, x = .str e ∧ (e = wLeft ∨ e = wRight) := by
      simp only [List.mem_cons, List.not_mem_nil, or_false] at hx
      rcases hx with rfl | rfl
      · exact ⟨_, rfl, .inl rfl⟩
      · exact ⟨_, rfl, .inr rfl⟩
    obtain ⟨e, rfl, he⟩ := hx
    simp! only [own_src, tupI, hl]
    refine p_draw (by omega) (by omega) fun d q h1 h2 => ?_
    simp! only [own_src, idx_s, abc_at h1 (by omega)]
    refine fin _ q (.at e d.toNat he (by omega)) _ fun d q h1 h2 ht => ?_
    simp! only []
    exact K _ _ q ht
  case inl =>
    simp! only [own_src]
    refine fin _ q .ahead _ fun d q h1 h2 ht => ?_
    simp! only []
    exact K _ _ q ht
  case inr.inr.inr.inr.inr =>
    simp! only [own_src]
    refine fin _ q .ahead _ fun d q h1 h2 ht => ?_
    simp! only []
    exact K _ _ q ht
  all_goals
    simp! only [own_src]
    refine p_of (by decide) (by decide) fun x q hx => ?_
    have hx : ∃ e, x = .str e ∧ (e = wSum ∨ e = sSize) := by
      simp only [List.mem_cons, List.not_mem_nil, or_false] at hx
      rcases hx with rfl | rfl
      · exact ⟨_, rfl, .inl rfl⟩
      · exact ⟨_, rfl, .inr rfl⟩
    obtain ⟨e, rfl, he⟩ := hx
    simp! only [own_src]
    refine p_of (by decide) (by decide) fun x q hx => ?_
    have hx : ∃ e, x = .str e ∧ (e = wIs ∨ e = wOver) := by
      simp only [List.mem_cons, List.not_mem_nil, or_false] at hx
      rcases hx with rfl | rfl | rfl
      · exact ⟨_, rfl, .inr rfl⟩
      · exact ⟨_, rfl, .inr rfl⟩
      · exact ⟨_, rfl, .inl rfl⟩
    obtain ⟨s, rfl, hs⟩ := hx
    simp! only [own_src]
    refine p_draw (by omega) (by omega) fun d q h1 h2 => ?_
    simp! only [own_src]
    refine fin _ q (.num e s d he hs (by omega) (by omega)) _ fun d q h1 h2 ht => ?_
    simp! only []
    exact K _ _ q ht
theorem p_tests {n : Nat} {p : Int × Int} {W : List Int} {Q : T → Env → Prop} (hW : WOk W) (K : ∀ l q, (∀ x ∈ l, Test W.length 3 x) → l.length ≤ 3 → Q (.tup l) [some (srcT q), none]) : Pc Q (prog.tab (n + 4) 36 [srcT p, tupI W]) := by
  rw [tabs (n + 3) 36 l_tests _ rfl]
  have ho : Vi.own (tupI W) = false := rfl
  have hf : fz (tupI W) = tupI W := rfl
  simp! only [l_tests, own_src]
  refine p_of (by decide) (by decide) fun x q hx => ?_
  have hx : ∃ i : Int, x = .int i ∧ 0 ≤ i ∧ i ≤ 3 := by
    simp only [List.mem_cons, List.not_mem_nil, or_false] at hx
    rcases hx with rfl | rfl | rfl | rfl | rfl | rfl <;> exact ⟨_, rfl, by omega, by omega⟩
  obtain ⟨i, rfl, h0, h1⟩ := hx
  have hlen := upto_len h0
  simp! only [rng_d h0 (by omega)]
  refine turns_d (fun q y => [some (srcT q), some (tupI W), y]) (Test W.length 3) q none rfl (by show _ ≤ 16777216; omega) (fun x _ q y => ?_) (fun ts q y hl ht => ?_)
  · simp! only [own_src, ho, hf]
    refine p_test hW fun b f q ht => ?_
    simp! only []
    exact Tn_i q _ ht rfl
  · simp! only []
    exact K ts q ht (by omega)
theorem body_of {α : Type} {ts : List T} {d : Int} (h : ts.length = (upto 0 d).length) (h0 : 0 ≤ d) : (ts.length : Int) = d := by rw [h]; exact upto_len h0
/-- words for notes -/
def WordsOk (N : List (List Nat)) (ws : List T) : Prop := 0 < ws.length ∧ ws.length ≤ 10 ∧ ∀ x ∈ ws, x = .str [] ∨ ∃ w, x = .str w ∧ w ∈ N
def NOk (N : List (List Nat)) : Prop := N = [wCount] ∨ N = [sMost, sLeast]
def stRest : Ss := match l_statement.body with | .cons _ r => r | .nil => .nil
theorem p_stmt_body (N : List (List Nat)) (W : List Int) (ws : List T) (hW : WOk W) (hN : NOk N) (hw : WordsOk N ws) : ∀ (d : Nat),
    (∀ n p (Q : T → Env → Prop), (∀ t q, Stm N W.length 3 d t → (∃ l, t = .tup l) → Q t [some (srcT q), none, none, none]) → 1 ≤ d → Pc Q (prog.tab (n + 2 * d + 5) 37 [srcT p, tupI W, .lst false ws, .int (d : Int)])) ∧
    (∀ n p m (Q : T → Env → Prop), (∀ l q, (∀ x ∈ l, Stm N W.length 3 d x) → (l.length : Int) ≤ m → Q (.tup l) [some (srcT q), none, none, none, none]) → 1 ≤ d → 0 ≤ m → m ≤ 100 → Pc Q (prog.tab (n + 2 * d + 6) 38 [srcT p, tupI W, .lst false ws, .int (d : Int), .int m])) := by
  have ho : Vi.own (tupI W) = false := rfl
  have hf : fz (tupI W) = tupI W := rfl
  intro d
  induction d with
  | zero => exact ⟨fun _ _ _ _ h => absurd h (by omega), fun _ _ _ _ _ h => absurd h (by omega)⟩
  | succ d ih =>
    obtain ⟨ih1, ih2⟩ := ih
    have S : ∀ n p (Q : T → Env → Prop), (∀ t q, Stm N W.length 3 (d + 1) t → (∃ l, t = .tup l) → Q t [some (srcT q), none, none, none]) → 1 ≤ d + 1 → Pc Q (prog.tab (n + 2 * (d + 1) + 5) 37 [srcT p, tupI W, .lst false ws, .int ((d + 1 : Nat) : Int)]) := by
      intro n p Q K _
      rw [show n + 2 * (d + 1) + 5 = (n + 2 * d + 6) + 1 by omega, tabs _ 37 l_statement _ rfl]
      have low : ∀ (v : Int) (q : Int × Int) (a5 a6 : Option T), 0 ≤ v → v < 8 → Pt (fun f e => match f with
          | .ret t => Q t (ou [0] 0 l_statement.ps e)
          | .nx => Q .non (ou [0] 0 l_statement.ps e)
          | _ => False) (exs ⟨gl, prog.tab (n + 2 * d + 6)⟩ stRest [some (srcT q), some (tupI W), some (.lst false ws), some (.int ((d + 1 : Nat) : Int)), some (.int v), none, none, none]) := by
        intro v q _ _ h0 h1
        by_cases h6 : v < 6
        · simp! only [stRest, l_statement, own_src, decide_eq_true h6]
          refine p_of (by show 0 < 6; decide) (by show 6 ≤ 1000; decide) fun x q hx => ?_
          have hx : ∃ w, x = .str w ∧ (w = wAdd ∨ w = wTake ∨ w = wRight ∨ w = wLeft ∨ w = wStop) := by
            simp only [List.mem_cons, List.not_mem_nil, or_false] at hx
            rcases hx with rfl | rfl | rfl | rfl | rfl | rfl
            · exact ⟨_, rfl, .inl rfl⟩
            · exact ⟨_, rfl, .inr (.inr (.inl rfl))⟩
            · exact ⟨_, rfl, .inl rfl⟩
            · exact ⟨_, rfl, .inr (.inr (.inl rfl))⟩
            · exact ⟨_, rfl, .inr (.inl rfl)⟩
            · exact ⟨_, rfl, .inr (.inr (.inr (.inl rfl)))⟩
          obtain ⟨w, rfl, hw⟩ := hx
          simp! only []
          exact K _ q (.plain d w hw) ⟨_, rfl⟩
        · simp! only [stRest, l_statement, own_src, decide_eq_false h6, decide_eq_true h1]
          refine p_of hw.1 (by have := hw.2.1; omega) fun x q hx => ?_
          rcases hw.2.2 x hx with rfl | ⟨w, rfl, hwN⟩
          · simp! only []
            exact K _ q (.plain d wStop (by simp)) ⟨_, rfl⟩
          · rcases hN with rfl | rfl
            · simp only [List.mem_singleton] at hwN
              subst hwN
              simp! only [wCount, own_src]
              refine p_of (by show 0 < 2; decide) (by show 2 ≤ 1000; decide) fun x q hx => ?_
              simp only [List.mem_cons, List.not_mem_nil, or_false] at hx
              rcases hx with rfl | rfl
              · simp! only []
                exact K _ q (.count d sSize (by simp [wCount]) (.inl rfl)) ⟨_, rfl⟩
              · simp! only []
                exact K _ q (.count d wOne (by simp [wCount]) (.inr rfl)) ⟨_, rfl⟩
            · simp only [List.mem_cons, List.not_mem_nil, or_false] at hwN
              rcases hwN with rfl | rfl
              all_goals
                simp! only [sMost, sLeast, own_src]
                refine p_of (by show 0 < 2; decide) (by show 2 ≤ 1000; decide) fun x q hx => ?_
                simp only [List.mem_cons, List.not_mem_nil, or_false] at hx
                rcases hx with rfl | rfl
              · simp! only []
                exact K _ q (.note d sMost sSize (.inl rfl) (by simp) (.inl rfl)) ⟨_, rfl⟩
              · simp! only []
                exact K _ q (.note d sMost wSum (.inl rfl) (by simp) (.inr rfl)) ⟨_, rfl⟩
              · simp! only []
                exact K _ q (.note d sLeast sSize (.inr rfl) (by simp) (.inl rfl)) ⟨_, rfl⟩
              · simp! only []
                exact K _ q (.note d sLeast wSum (.inr rfl) (by simp) (.inr rfl)) ⟨_, rfl⟩
      rw [show l_statement = ⟨_, _, _, _, .cons _ stRest⟩ from rfl]
      by_cases hd : d = 0
      · subst hd
        have e : (((0 + 1 : Nat) : Int)) = 1 := rfl
        simp! only [own_src, e]
        refine p_draw (m := 8) (by omega) (by omega) fun v q h0 h1 => ?_
        simp! only []
        exact low v q none none h0 h1
      · have e : ((1 : Int) < ((d + 1 : Nat) : Int)) := by omega
        simp! only [own_src, decide_eq_true e]
        refine p_draw (m := 12) (by omega) (by omega) fun v q h0 h1 => ?_
        simp! only []
        by_cases h8 : v < 8
        · exact low v q none none h0 h8
        · have h6 : ¬ v < 6 := by omega
          have ed : ((d + 1 : Nat) : Int) - 1 = (d : Int) := by omega
          simp! only [stRest, l_statement, own_src, ho, hf, decide_eq_false h6, decide_eq_false h8]
          refine p_tests hW fun t q ht hl => ?_
          simp! only [own_src, ho, hf, ed]
          refine ih2 n q 4 _ (fun b q hb hl2 => ?_) (by omega) (by omega) (by omega)
          by_cases h11 : v < 11
          · simp! only [decide_eq_true h11]
            exact K _ q (.whl d t b ht hl hb (by omega)) ⟨_, rfl⟩
          · simp! only [decide_eq_false h11, own_src, ho, hf, ed]
            refine ih2 n q 2 _ (fun c q hc hl3 => ?_) (by omega) (by omega) (by omega)
            simp! only []
            exact K _ q (.iff d t b c ht hl hb (by omega) hc (by omega)) ⟨_, rfl⟩
    refine ⟨S, ?_⟩
    intro n p m Q K _ h0 h1
    rw [show n + 2 * (d + 1) + 6 = (n + 2 * (d + 1) + 5) + 1 by omega, tabs _ 38 l_body _ rfl]
    simp! only [l_body, own_src]
    refine p_draw (by omega) (by omega) fun v q h2 h3 => ?_
    have hlen := upto_len h2
    simp! only [rng_d h2 (by omega)]
    refine turns_d (fun q y => [some (srcT q), some (tupI W), some (.lst false ws), some (.int ((d + 1 : Nat) : Int)), some (.int m), y]) (Stm N W.length 3 (d + 1)) q none rfl (by show _ ≤ 16777216; omega) (fun x _ q y => ?_) (fun ts q y hl ht => ?_)
    · simp! only [own_src, ho, hf]
      refine S n q _ (fun t q ht hl => ?_) (by omega)
      obtain ⟨l, rfl⟩ := hl
      simp! only []
      exact Tn_i q _ ht rfl
    · simp! only []
      exact K ts q ht (by omega)
end ViLaw

set_option maxRecDepth 100000
set_option maxHeartbeats 1000000
set_option linter.all false
set_option autoImplicit false
namespace ViLaw
open Vi
/-! ### the number of statements -/
theorem Fact.dat {m : Nat} {B : Int} {t : T} (h : Fact m B t) : ∀ k, 1 ≤ k → Vi.dat k t = true := by
  intro k hk
  obtain ⟨k, rfl⟩ : ∃ j, k = j + 1 := ⟨k - 1, by omega⟩
  cases h <;> simp only [dat_t, dats_c, dats_n, dat_s, dat_i, Bool.and_self]
theorem Test.dat {m : Nat} {B : Int} {t : T} (h : Test m B t) : ∀ k, 2 ≤ k → Vi.dat k t = true := by
  intro k hk
  obtain ⟨k, rfl⟩ : ∃ j, k = j + 1 := ⟨k - 1, by omega⟩
  obtain ⟨b, f, rfl, hf⟩ := h
  simp only [dat_t, dats_c, dats_n, dat_b, hf.dat k (by omega), Bool.and_self]
theorem dats_of {k : Nat} : ∀ {l : List T}, (∀ x ∈ l, Vi.dat k x = true) → dats k l = true
  | [], _ => dats_n k
  | x :: l, h => by rw [dats_c, h x List.mem_cons_self, dats_of fun y hy => h y (List.mem_cons_of_mem _ hy)]; rfl
theorem Stm.dat {N : List (List Nat)} {m : Nat} {B : Int} {d : Nat} {t : T} (h : Stm N m B d t) : ∀ k, 2 * d + 4 ≤ k → Vi.dat k t = true := by
  induction h with
  | plain d w h => intro k hk; obtain ⟨k, rfl⟩ : ∃ j, k = j + 1 := ⟨k - 1, by omega⟩; simp only [dat_t, dats_c, dats_n, dat_s, Bool.and_self]
  | note d w a h hn ha => intro k hk; obtain ⟨k, rfl⟩ : ∃ j, k = j + 1 := ⟨k - 1, by omega⟩; simp only [dat_t, dats_c, dats_n, dat_s, Bool.and_self]
  | count d a hn ha => intro k hk; obtain ⟨k, rfl⟩ : ∃ j, k = j + 1 := ⟨k - 1, by omega⟩; simp only [dat_t, dats_c, dats_n, dat_s, Bool.and_self]
  | whl d t b ht hl hb hl2 ih =>
    intro k hk
    obtain ⟨k, rfl⟩ : ∃ j, k = j + 2 := ⟨k - 2, by omega⟩
    have e1 : dats k t = true := dats_of fun x hx => (ht x hx).dat k (by omega)
    have e2 : dats k b = true := dats_of fun x hx => ih x hx k (by omega)
    simp only [dat_t, dats_c, dats_n, dat_s, e1, e2, Bool.and_self]
  | iff d t b c ht hl hb hl2 hc hl3 ih ih2 =>
    intro k hk
    obtain ⟨k, rfl⟩ : ∃ j, k = j + 2 := ⟨k - 2, by omega⟩
    have e1 : dats k t = true := dats_of fun x hx => (ht x hx).dat k (by omega)
    have e2 : dats k b = true := dats_of fun x hx => ih x hx k (by omega)
    have e3 : dats k c = true := dats_of fun x hx => ih2 x hx k (by omega)
    simp only [dat_t, dats_c, dats_n, dat_s, e1, e2, e3, Bool.and_self]
theorem szL_cons (s : T) (r : List T) : szL (s :: r) = (lsS s).length + szL r := by
  unfold szL; rw [lsL_cons, List.length_append]
theorem t_size (N : List (List Nat)) (m : Nat) (B : Int) : ∀ (d n : Nat) (l : List T), (∀ x ∈ l, Stm N m B d x) → prog.tab (n + d + 1) 39 [.tup l] = .ret (.int (szL l)) [none] := by
  intro d
  induction d with
  | zero =>
    intro n l h
    have hl : l = [] := by
      cases l with
      | nil => rfl
      | cons x l => exact nomatch h x List.mem_cons_self
    subst hl
    refine Pe_ret ?_
    rw [tabs _ 39 l_size _ rfl]
    simp! only [l_size]
    exact ⟨rfl, rfl⟩
  | succ d ih =>
    intro n l h
    refine Pe_ret ?_
    rw [tabs _ 39 l_size _ rfl]
    simp! only [l_size]
    refine forL_p (fun r e => ∃ (k : Int) (y2 y3 : Option T), e = [some (.tup l), some (.int k), y2, y3] ∧ k + (szL r : Int) = szL l ∧ ∀ x ∈ r, Stm N m B (d + 1) x) l _ ⟨0, none, none, rfl, by omega, h⟩ ?_ ?_
    · rintro x r e ⟨k, y2, y3, rfl, hk, hr⟩
      have hx := hr x List.mem_cons_self
      have hr' : ∀ y ∈ r, Stm N m B (d + 1) y := fun y hy => hr y (List.mem_cons_of_mem _ hy)
      rw [szL_cons] at hk
      cases hx with
      | plain _ w hw =>
        rw [lsS_plain] at hk
        have : (wWhile == w || (wIf == w || false)) = false := by rcases hw with rfl | rfl | rfl | rfl | rfl <;> rfl
        unfold wWhile wIf at this
        rcases hw with rfl | rfl | rfl | rfl | rfl
        all_goals
          simp! only [wAdd, wTake, wRight, wLeft, wStop]
          exact ⟨k + 1, _, _, rfl, by simp at hk; omega, hr'⟩
      | note _ w a hw _ _ =>
        rw [lsS_note] at hk
        rcases hw with rfl | rfl
        all_goals
          simp! only [sMost, sLeast]
          exact ⟨k + 1, _, _, rfl, by simp at hk; omega, hr'⟩
      | count _ a _ _ =>
        rw [lsS_note] at hk
        simp! only [wCount]
        exact ⟨k + 1, _, _, rfl, by simp at hk; omega, hr'⟩
      | whl _ t b ht hl hb hl2 =>
        rw [lsS_whl] at hk
        have e1 : prog.tab (n + (d + 1)) 39 [.tup b] = _ := ih n b hb
        simp! only [wWhile, e1]
        exact ⟨k + 1 + (szL b : Int), _, _, rfl, by simp [szL] at hk ⊢; omega, hr'⟩
      | iff _ t b c ht hl hb hl2 hc hl3 =>
        rw [lsS_if] at hk
        have e1 : prog.tab (n + (d + 1)) 39 [.tup b] = _ := ih n b hb
        have e2 : prog.tab (n + (d + 1)) 39 [.tup c] = _ := ih n c hc
        simp! only [wIf, e1, e2]
        exact ⟨k + 1 + (szL b : Int) + (szL c : Int), _, _, rfl, by simp [szL] at hk ⊢; omega, hr'⟩
    · rintro e ⟨k, y2, y3, rfl, hk, _⟩
      simp! only []
      exact ⟨by rw [szL_nil] at hk; rw [← hk]; simp, rfl⟩
end ViLaw

set_option maxRecDepth 100000
set_option maxHeartbeats 2000000
set_option linter.all false
set_option autoImplicit false
namespace ViLaw
open Vi
/-! ### bent loops -/
theorem eqbs_ne {a : List T} (h : a ≠ []) : eqbs a [] = false := by
  cases a with
  | nil => exact absurd rfl h
  | cons x a => rfl
theorem p_bent (N : List (List Nat)) (m : Nat) (B : Int) (hB : 0 ≤ B) : ∀ (d n : Nat) (p : Int × Int) (l : List T) (Q : T → Env → Prop), 2 * d ≤ 50 → l.length ≤ 8 → (∀ x ∈ l, Stm N m B d x) →
    (∀ l' q, l'.length ≤ l.length → (∀ x ∈ l', Stm N m (B + 1) d x) → Q (.tup l') [some (srcT q), none]) → Pc Q (prog.tab (n + d + 3) 40 [srcT p, .tup l]) := by
  intro d
  induction d with
  | zero =>
    intro n p l Q _ _ h K
    have hl : l = [] := by
      cases l with
      | nil => rfl
      | cons x l => exact nomatch h x List.mem_cons_self
    subst hl
    rw [tabs _ 40 l_bent _ rfl]
    simp! only [l_bent, own_src]
    exact K [] p (by simp) (fun x hx => by simp at hx)
  | succ d ih =>
    intro n p l Q hd hl h K
    rw [tabs _ 40 l_bent _ rfl]
    by_cases hne : l = []
    · subst hne
      simp! only [l_bent, own_src]
      exact K [] p (by simp) (fun x hx => by simp at hx)
    have h0 : 0 < l.length := List.length_pos_iff.mpr hne
    have g1 : dats 63 l = true := dats_of fun x hx => (h x hx).dat 63 (by omega)
    have g2 := eqbs_ne hne
    simp! only [l_bent, own_src, g1, g2]
    refine p_draw (m := (l.length : Int)) (by omega) (by omega) fun i q hi0 hi1 => ?_
    simp! only [own_src]
    refine p_draw (by omega) (by omega) fun v q hv0 hv1 => ?_
    obtain ⟨a, x, b, rfl, rfl⟩ := split_at l i hi0 hi1
    have hlen : a.length + 1 + b.length ≤ 8 := by rw [List.length_append, List.length_cons] at hl; omega
    have ha : ∀ y ∈ a, Stm N m (B + 1) (d + 1) y := fun y hy => (h y (by simp [hy])).mono (fun _ h => h) (by omega)
    have hx := h x (by simp)
    have hb : ∀ y ∈ b, Stm N m (B + 1) (d + 1) y := fun y hy => (h y (by simp [hy])).mono (fun _ h => h) (by omega)
    have fin : ∀ y q, Stm N m (B + 1) (d + 1) y → Q (.tup (a ++ [y] ++ b)) [some (srcT q), none] := by
      intro y q hy
      refine K _ q (by simp) fun z hz => ?_
      simp only [List.mem_append, List.mem_singleton] at hz
      rcases hz with (hz | rfl) | hz
      · exact ha z hz
      · exact hy
      · exact hb z hz
    have hfx : fz x = x := by cases hx <;> rfl
    have hox : Vi.own x = false := by cases hx <;> rfl
    have n1 : decide (a.length + 1 ≤ line) = true := dl (by omega)
    have n2 : ∀ y : T, decide ((a ++ [y]).length + b.length ≤ line) = true := fun y => dl (by simp; omega)
    have hvv : v = 0 ∨ v = 1 ∨ (v = 2 ∨ v = 3 ∨ v = 4) := by omega
    rcases hvv with rfl | rfl | hvv
    · simp! only [atxA, cutA, cutB, dl (show a.length + b.length ≤ 1000 by omega)]
      refine K _ q (by simp) fun z hz => ?_
      rcases List.mem_append.mp hz with hz | hz
      · exact ha z hz
      · exact hb z hz
    · have n3 : decide ((a ++ b.take 1).length + 1 ≤ line) = true := dl (by simp; omega)
      have n4 : decide ((a ++ b.take 1 ++ [x]).length + (b.drop 1).length ≤ line) = true := dl (by simp; omega)
      simp! only [atxA, cutA, cutC, cutD, dl (show a.length + (b.take 1).length ≤ 1000 by simp; omega), n3, n4, hfx, hox]
      refine K (a ++ b.take 1 ++ [x] ++ b.drop 1) q (by simp; omega) fun z hz => ?_
      simp only [List.mem_append, List.mem_singleton] at hz
      rcases hz with ((hz | hz) | rfl) | hz
      · exact ha z hz
      · exact hb z (List.mem_of_mem_take hz)
      · exact hx.mono (fun _ h => h) (by omega)
      · exact hb z (List.mem_of_mem_drop hz)
    · have e0 : (v == 0) = false := by rcases hvv with rfl | rfl | rfl <;> rfl
      have e1 : (v == 1) = false := by rcases hvv with rfl | rfl | rfl <;> rfl
      cases hx with
      | plain _ w hw =>
        have w1 : (wWhile == w) = false := by rcases hw with rfl | rfl | rfl | rfl | rfl <;> rfl
        have w2 : (wIf == w) = false := by rcases hw with rfl | rfl | rfl | rfl | rfl <;> rfl
        unfold wWhile at w1; unfold wIf at w2
        simp! only [atxA, e0, e1, w1, w2, own_src]
        refine p_of (by show 0 < 5; decide) (by show 5 ≤ 1000; decide) fun y q hy => ?_
        have hy : Stm N m (B + 1) (d + 1) y ∧ ∃ l, y = .tup l := by
          simp only [List.mem_cons, List.not_mem_nil, or_false] at hy
          rcases hy with rfl | rfl | rfl | rfl | rfl
          · exact ⟨.plain d wAdd (by simp), _, rfl⟩
          · exact ⟨.plain d wRight (by simp), _, rfl⟩
          · exact ⟨.plain d wTake (by simp), _, rfl⟩
          · exact ⟨.plain d wLeft (by simp), _, rfl⟩
          · exact ⟨.plain d w hw, _, rfl⟩
        obtain ⟨hy, l, rfl⟩ := hy
        simp! only [cutA, cutB, n1, n2]
        exact fin _ q hy
      | note _ w c hw hwN hc =>
        have w1 : (wWhile == w) = false := by rcases hw with rfl | rfl <;> rfl
        have w2 : (wIf == w) = false := by rcases hw with rfl | rfl <;> rfl
        unfold wWhile at w1; unfold wIf at w2
        simp! only [atxA, e0, e1, w1, w2, own_src]
        refine p_of (by show 0 < 5; decide) (by show 5 ≤ 1000; decide) fun y q hy => ?_
        have hy : Stm N m (B + 1) (d + 1) y ∧ ∃ l, y = .tup l := by
          simp only [List.mem_cons, List.not_mem_nil, or_false] at hy
          rcases hy with rfl | rfl | rfl | rfl | rfl
          · exact ⟨.plain d wAdd (by simp), _, rfl⟩
          · exact ⟨.plain d wRight (by simp), _, rfl⟩
          · exact ⟨.plain d wTake (by simp), _, rfl⟩
          · exact ⟨.plain d wLeft (by simp), _, rfl⟩
          · exact ⟨.note d w c hw hwN hc, _, rfl⟩
        obtain ⟨hy, l, rfl⟩ := hy
        simp! only [cutA, cutB, n1, n2]
        exact fin _ q hy
      | count _ c hwN hc =>
        simp! only [atxA, e0, e1, wCount, own_src]
        refine p_of (by show 0 < 5; decide) (by show 5 ≤ 1000; decide) fun y q hy => ?_
        have hy : Stm N m (B + 1) (d + 1) y ∧ ∃ l, y = .tup l := by
          simp only [List.mem_cons, List.not_mem_nil, or_false] at hy
          rcases hy with rfl | rfl | rfl | rfl | rfl
          · exact ⟨.plain d wAdd (by simp), _, rfl⟩
          · exact ⟨.plain d wRight (by simp), _, rfl⟩
          · exact ⟨.plain d wTake (by simp), _, rfl⟩
          · exact ⟨.plain d wLeft (by simp), _, rfl⟩
          · exact ⟨.count d c hwN hc, _, rfl⟩
        obtain ⟨hy, l, rfl⟩ := hy
        simp! only [cutA, cutB, n1, n2]
        exact fin _ q hy
      | whl _ t c ht htl hc hcl =>
        have ht' : ∀ y ∈ t, Test m (B + 1) y := fun y hy => (ht y hy).mono (by omega)
        have d0 : dats 63 t = true := dats_of fun z hz => (ht z hz).dat 63 (by omega)
        simp! only [atxA, e0, e1, wWhile, own_src]
        refine p_draw (m := 1) (by omega) (by omega) fun u q hu0 hu1 => ?_
        obtain rfl : u = 0 := by omega
        have tail : ∀ (q : Int × Int) (F : T → Env → Prop), (∀ c' q, c'.length ≤ c.length → (∀ x ∈ c', Stm N m (B + 1) d x) → F (.tup c') [some (srcT q), none]) → Pc F (prog.tab (n + (d + 1) + 2) 40 [srcT q, .tup c]) := fun q F hF => ih n q c F (by omega) hcl hc hF
        by_cases h2 : v = 2 ∧ t ≠ []
        · obtain ⟨rfl, htn⟩ := h2
          obtain ⟨y, t, rfl⟩ : ∃ y t', t = y :: t' := by
            cases t with
            | nil => exact absurd rfl htn
            | cons y t => exact ⟨y, t, rfl⟩
          obtain ⟨bb, f0, rfl, hf0⟩ := ht y (by simp)
          have hrest : ∀ z ∈ t, Test m (B + 1) z := fun z hz => ht' z (by simp [hz])
          have d1 := hf0.dat 62 (by omega)
          rw [dat_t] at d1
          have d2 : dats 62 t = true := dats_of fun z hz => (ht z (by simp [hz])).dat 62 (by omega)
          have d3 : dats 63 t = true := dats_of fun z hz => (ht z (by simp [hz])).dat 63 (by omega)
          have n5 : decide (1 + t.length ≤ line) = true := dl (by rw [List.length_cons] at htl; omega)
          have htl2 : ∀ z : T, (z :: t).length ≤ 3 := fun z => htl
          have mem : ∀ z, Test m (B + 1) z → ∀ y ∈ z :: t, Test m (B + 1) y := fun z hz y hy => by
            rcases List.mem_cons.mp hy with rfl | hy
            · exact hz
            · exact hrest y hy
          cases hf0 with
          | ahead =>
            simp! only [own_src, d1, d2, d3, wAhead, n5, cutA, cutB, n1, n2]
            exact fin _ q ((fun hm hl => Stm.whl d _ c hm hl (fun y hy => (hc y hy).mono (fun _ h => h) (by omega)) hcl) (mem _ ⟨bb, _, rfl, .ahead⟩) (htl2 _))
          | num w s i hw hs hi0 hi1 =>
            have ws : ([115, 117, 109] == w) = true ∨ ([115, 117, 109] == w) = false ∧ ([115, 105, 122, 101] == w) = true := by rcases hw with rfl | rfl <;> simp [wSum, sSize]
            have fa : ∀ i' : Int, 0 ≤ i' → i' ≤ B + 1 → Test m (B + 1) (.tup [.bl bb, .tup [.str w, .str s, .int i']]) := fun i' h0 h1 => ⟨bb, _, rfl, .num w s i' hw hs h0 h1⟩
            rcases ws with ws | ⟨ws, ws2⟩
            · simp! only [own_src, d1, d2, d3, ws]
              refine p_of (by show 0 < 2; decide) (by show 2 ≤ 1000; decide) fun z q hz => ?_
              have hz : ∃ e : Int, z = .int e ∧ -1 ≤ e ∧ e ≤ 1 := by
                simp only [List.mem_cons, List.not_mem_nil, or_false] at hz
                rcases hz with rfl | rfl <;> exact ⟨_, rfl, by omega, by omega⟩
              obtain ⟨e, rfl, he0, he1⟩ := hz
              simp! only [own_src, n5, cutA, cutB, n1, n2]
              exact fin _ q ((fun hm hl => Stm.whl d _ c hm hl (fun y hy => (hc y hy).mono (fun _ h => h) (by omega)) hcl) (mem _ (fa _ (by split <;> omega) (by split <;> omega))) (htl2 _))
            · simp! only [own_src, d1, d2, d3, ws, ws2]
              refine p_of (by show 0 < 2; decide) (by show 2 ≤ 1000; decide) fun z q hz => ?_
              have hz : ∃ e : Int, z = .int e ∧ -1 ≤ e ∧ e ≤ 1 := by
                simp only [List.mem_cons, List.not_mem_nil, or_false] at hz
                rcases hz with rfl | rfl <;> exact ⟨_, rfl, by omega, by omega⟩
              obtain ⟨e, rfl, he0, he1⟩ := hz
              simp! only [own_src, n5, cutA, cutB, n1, n2]
              exact fin _ q ((fun hm hl => Stm.whl d _ c hm hl (fun y hy => (hc y hy).mono (fun _ h => h) (by omega)) hcl) (mem _ (fa _ (by split <;> omega) (by split <;> omega))) (htl2 _))
          | «at» e k he hk =>
            simp! only [own_src, d1, d2, d3, wAt, n5, cutA, cutB, n1, n2]
            exact fin _ q ((fun hm hl => Stm.whl d _ c hm hl (fun y hy => (hc y hy).mono (fun _ h => h) (by omega)) hcl) (mem _ ⟨bb, _, rfl, .at e k he hk⟩) (htl2 _))
        · have h3 : (v == 2) = false ∨ (v = 2 ∧ t = []) := by
            by_cases h4 : v = 2
            · right; exact ⟨h4, Classical.byContradiction fun h => h2 ⟨h4, h⟩⟩
            · left; rw [beq_eq_false_iff_ne]; exact h4
          rcases h3 with h3 | ⟨rfl, rfl⟩
          · simp! only [own_src, h3]
            refine tail q _ fun c' q hl' hc' => ?_
            simp! only [cutA, cutB, n1, n2]
            exact fin _ q (.whl d t c' ht' htl hc' (by omega))
          · simp! only [own_src]
            refine tail q _ fun c' q hl' hc' => ?_
            simp! only [cutA, cutB, n1, n2]
            exact fin _ q (.whl d [] c' ht' htl hc' (by omega))
      | iff _ t c f ht htl hc hcl hf hfl =>
        have ht' : ∀ y ∈ t, Test m (B + 1) y := fun y hy => (ht y hy).mono (by omega)
        have hc2 : ∀ y ∈ c, Stm N m (B + 1) d y := fun y hy => (hc y hy).mono (fun _ h => h) (by omega)
        have hf2 : ∀ y ∈ f, Stm N m (B + 1) d y := fun y hy => (hf y hy).mono (fun _ h => h) (by omega)
        have d0 : dats 63 t = true := dats_of fun z hz => (ht z hz).dat 63 (by omega)
        simp! only [atxA, e0, e1, wIf, own_src]
        refine p_draw (m := 2) (by omega) (by omega) fun u q hu0 hu1 => ?_
        have tail : ∀ (q : Int × Int) (F : T → Env → Prop), (∀ c' q, c'.length ≤ c.length → (∀ x ∈ c', Stm N m (B + 1) d x) → F (.tup c') [some (srcT q), none]) → Pc F (prog.tab (n + (d + 1) + 2) 40 [srcT q, .tup c]) := fun q F hF => ih n q c F (by omega) hcl hc hF
        have tail2 : ∀ (q : Int × Int) (F : T → Env → Prop), (∀ c' q, c'.length ≤ f.length → (∀ x ∈ c', Stm N m (B + 1) d x) → F (.tup c') [some (srcT q), none]) → Pc F (prog.tab (n + (d + 1) + 2) 40 [srcT q, .tup f]) := fun q F hF => ih n q f F (by omega) hfl hf hF
        by_cases h2 : v = 2 ∧ t ≠ []
        · obtain ⟨rfl, htn⟩ := h2
          obtain ⟨y, t, rfl⟩ : ∃ y t', t = y :: t' := by
            cases t with
            | nil => exact absurd rfl htn
            | cons y t => exact ⟨y, t, rfl⟩
          obtain ⟨bb, f0, rfl, hf0⟩ := ht y (by simp)
          have hrest : ∀ z ∈ t, Test m (B + 1) z := fun z hz => ht' z (by simp [hz])
          have d1 := hf0.dat 62 (by omega)
          rw [dat_t] at d1
          have d2 : dats 62 t = true := dats_of fun z hz => (ht z (by simp [hz])).dat 62 (by omega)
          have d3 : dats 63 t = true := dats_of fun z hz => (ht z (by simp [hz])).dat 63 (by omega)
          have n5 : decide (1 + t.length ≤ line) = true := dl (by rw [List.length_cons] at htl; omega)
          have htl2 : ∀ z : T, (z :: t).length ≤ 3 := fun z => htl
          have mem : ∀ z, Test m (B + 1) z → ∀ y ∈ z :: t, Test m (B + 1) y := fun z hz y hy => by
            rcases List.mem_cons.mp hy with rfl | hy
            · exact hz
            · exact hrest y hy
          have hu : u = 0 ∨ u = 1 := by omega
          cases hf0 with
          | ahead =>
            simp! only [own_src, d1, d2, d3, wAhead, n5, cutA, cutB, n1, n2]
            exact fin _ q ((fun hm hl => Stm.iff d _ c f hm hl hc2 hcl hf2 hfl) (mem _ ⟨bb, _, rfl, .ahead⟩) (htl2 _))
          | num w s i hw hs hi0 hi1 =>
            have ws : ([115, 117, 109] == w) = true ∨ ([115, 117, 109] == w) = false ∧ ([115, 105, 122, 101] == w) = true := by rcases hw with rfl | rfl <;> simp [wSum, sSize]
            have fa : ∀ i' : Int, 0 ≤ i' → i' ≤ B + 1 → Test m (B + 1) (.tup [.bl bb, .tup [.str w, .str s, .int i']]) := fun i' h0 h1 => ⟨bb, _, rfl, .num w s i' hw hs h0 h1⟩
            rcases ws with ws | ⟨ws, ws2⟩
            · simp! only [own_src, d1, d2, d3, ws]
              refine p_of (by show 0 < 2; decide) (by show 2 ≤ 1000; decide) fun z q hz => ?_
              have hz : ∃ e : Int, z = .int e ∧ -1 ≤ e ∧ e ≤ 1 := by
                simp only [List.mem_cons, List.not_mem_nil, or_false] at hz
                rcases hz with rfl | rfl <;> exact ⟨_, rfl, by omega, by omega⟩
              obtain ⟨e, rfl, he0, he1⟩ := hz
              simp! only [own_src, n5, cutA, cutB, n1, n2]
              exact fin _ q ((fun hm hl => Stm.iff d _ c f hm hl hc2 hcl hf2 hfl) (mem _ (fa _ (by split <;> omega) (by split <;> omega))) (htl2 _))
            · simp! only [own_src, d1, d2, d3, ws, ws2]
              refine p_of (by show 0 < 2; decide) (by show 2 ≤ 1000; decide) fun z q hz => ?_
              have hz : ∃ e : Int, z = .int e ∧ -1 ≤ e ∧ e ≤ 1 := by
                simp only [List.mem_cons, List.not_mem_nil, or_false] at hz
                rcases hz with rfl | rfl <;> exact ⟨_, rfl, by omega, by omega⟩
              obtain ⟨e, rfl, he0, he1⟩ := hz
              simp! only [own_src, n5, cutA, cutB, n1, n2]
              exact fin _ q ((fun hm hl => Stm.iff d _ c f hm hl hc2 hcl hf2 hfl) (mem _ (fa _ (by split <;> omega) (by split <;> omega))) (htl2 _))
          | «at» e k he hk =>
            simp! only [own_src, d1, d2, d3, wAt, n5, cutA, cutB, n1, n2]
            exact fin _ q ((fun hm hl => Stm.iff d _ c f hm hl hc2 hcl hf2 hfl) (mem _ ⟨bb, _, rfl, .at e k he hk⟩) (htl2 _))
        · have h3 : (v == 2) = false ∨ (v = 2 ∧ t = []) := by
            by_cases h4 : v = 2
            · right; exact ⟨h4, Classical.byContradiction fun h => h2 ⟨h4, h⟩⟩
            · left; rw [beq_eq_false_iff_ne]; exact h4
          have hu : u = 0 ∨ u = 1 := by omega
          rcases hu with rfl | rfl
          · rcases h3 with h3 | ⟨rfl, rfl⟩
            · simp! only [own_src, h3]
              refine tail q _ fun c' q hl' hc' => ?_
              simp! only [cutA, cutB, n1, n2]
              exact fin _ q (.iff d t c' f ht' htl hc' (by omega) hf2 hfl)
            · simp! only [own_src]
              refine tail q _ fun c' q hl' hc' => ?_
              simp! only [cutA, cutB, n1, n2]
              exact fin _ q (.iff d [] c' f ht' htl hc' (by omega) hf2 hfl)
          · rcases h3 with h3 | ⟨rfl, rfl⟩
            · simp! only [own_src, h3]
              refine tail2 q _ fun c' q hl' hc' => ?_
              simp! only [cutA, cutB, n1, n2]
              exact fin _ q (.iff d t c c' ht' htl hc2 hcl hc' (by omega))
            · simp! only [own_src]
              refine tail2 q _ fun c' q hl' hc' => ?_
              simp! only [cutA, cutB, n1, n2]
              exact fin _ q (.iff d [] c c' ht' htl hc2 hcl hc' (by omega))
end ViLaw

set_option maxRecDepth 100000
set_option maxHeartbeats 2000000
set_option linter.all false
set_option autoImplicit false
namespace ViLaw
open Vi
/-! ### a loop is drawn -/
theorem rng0 : rngT (.int 0) (.int 0) = some [] := rfl
theorem rng1 : rngT (.int 0) (.int 1) = some [.int 0] := rfl
theorem rng2 : rngT (.int 0) (.int 2) = some [.int 0, .int 1] := rfl
theorem kok_n {k s : List Nat} {no : T} (h : KOk k s no) : ((noteN k = [wCount] ∧ ∃ i : Int, no = .int i ∧ -1 ≤ i ∧ i ≤ 9) ∨ (noteN k = [sMost, sLeast] ∧ (no = .non ∨ ∃ i : Int, no = .int i ∧ -1 ≤ i ∧ i ≤ 9))) := by
  rcases h with ⟨rfl, hs, hn⟩ | ⟨rfl, hs, rfl⟩ | ⟨rfl, hs, rfl⟩ | ⟨rfl, rfl, hn⟩ | ⟨rfl, rfl, rfl⟩
  · right; refine ⟨by decide, ?_⟩
    rcases hn with rfl | rfl | rfl
    · exact .inl rfl
    · exact .inr ⟨_, rfl, by omega, by omega⟩
    · exact .inr ⟨_, rfl, by omega, by omega⟩
  · right; exact ⟨by decide, .inl rfl⟩
  · left; exact ⟨by decide, _, rfl, by omega, by omega⟩
  · right; refine ⟨by decide, ?_⟩
    rcases hn with rfl | rfl | rfl
    · exact .inl rfl
    · exact .inr ⟨_, rfl, by omega, by omega⟩
    · exact .inr ⟨_, rfl, by omega, by omega⟩
  · right; exact ⟨by decide, .inl rfl⟩
theorem kok_no {k s : List Nat} {no : T} (h : KOk k s no) : fz no = no ∧ Vi.own no = false := by
  rcases kok_n h with ⟨_, i, rfl, _, _⟩ | ⟨_, rfl | ⟨i, rfl, _, _⟩⟩ <;> exact ⟨rfl, rfl⟩
def lpRest : Ss := match l_loop.body with | .cons _ (.cons _ (.cons _ (.cons _ r))) => r | _ => .nil
def lpEnd : Ss := match l_loop.body with | .cons _ (.cons _ (.cons _ (.cons _ (.cons _ (.cons _ r))))) => r | _ => .nil
theorem p_loop {n : Nat} {p : Int × Int} {Q : T → Env → Prop} (K : ∀ N W b body q, LoopOk N W b body → Q (loopT W b body) [some (srcT q)]) : Pc Q (prog.tab (n + 11) 41 [srcT p]) := by
  rw [tabs (n + 10) 41 l_loop _ rfl]
  rw [show l_loop = ⟨_, _, _, _, .cons _ (.cons _ (.cons _ (.cons _ lpRest)))⟩ from rfl]
  simp! only [own_src]
  refine p_worths fun W q hW => ?_
  have ho : Vi.own (tupI W) = false := rfl
  have hf : fz (tupI W) = tupI W := rfl
  simp! only [own_src]
  refine p_draw (by omega) (by omega) fun v q hv0 hv1 => ?_
  have nob : LoopOk [sMost, sLeast] W (.int 0) [] := ⟨hW, .inr ⟨rfl, .inr ⟨0, rfl, by omega, by omega⟩⟩, ⟨by simp, fun x hx => by simp at hx⟩, by rw [szL_nil]; omega⟩
  by_cases h3 : v < 3
  · simp! only [decide_eq_true h3, own_src, ho, hf]
    refine p_wish fun k s num no q hk h1 h2 => ?_
    obtain ⟨f1, f2⟩ := kok_no hk
    have hwo : ∀ num, Vi.own (wishT k s num no) = false := fun _ => rfl
    have hwf : ∀ num, fz (wishT k s num no) = wishT k s num no := fun _ => rfl
    simp! only [t_small, hwo, hwf, own_src]
    refine p_loop_for (m := W.length) hk (by omega) (by omega) fun body hb hsz => ?_
    have fin : ∀ body q, Body (noteN k) W.length 9 4 body → szL body ≤ 20 → Q (loopT W no body) [some (srcT q)] := fun body q hb hs => K _ W no body q ⟨hW, kok_n hk, hb, hs⟩
    have up : ∀ (B : Int) body, B ≤ 9 → body.length ≤ 8 → (∀ x ∈ body, Stm (noteN k) W.length B 4 x) → Body (noteN k) W.length 9 4 body := fun B body hB hl h => ⟨hl, fun x hx => (h x hx).mono (fun _ h => h) hB⟩
    have hv : v = 0 ∨ v = 1 ∨ v = 2 := by omega
    rcases hv with rfl | rfl | rfl
    · have hsz2 := t_size (noteN k) W.length 3 4 (n + 5) body hb.2
      rw [show n + 5 + 4 + 1 = n + 10 from rfl] at hsz2
      have hdec : (decide ((szL body : Int) ≤ 20)) = true := decide_eq_true (by omega)
      simp! only [rng0, loopT, hsz2, hdec]
      exact fin _ q (up 3 _ (by omega) hb.1 hb.2) hsz
    · simp! only [rng1, loopT, own_src, ho, hf, f1, f2]
      refine p_bent (noteN k) W.length 3 (by omega) 4 (n + 3) q body _ (by omega) hb.1 hb.2 fun body1 q hl1 hb1 => ?_
      have hsz2 := t_size (noteN k) W.length (3 + 1) 4 (n + 5) body1 hb1
      rw [show n + 5 + 4 + 1 = n + 10 from rfl] at hsz2
      by_cases hs : (szL body1 : Int) ≤ 20
      · simp! only [hsz2, decide_eq_true hs]
        exact fin _ q (up _ _ (by omega) (by have := hb.1; omega) hb1) (by omega)
      · simp! only [hsz2, decide_eq_false hs, ho, hf]
        exact K _ W _ _ q nob
    · simp! only [rng2, loopT, own_src, ho, hf, f1, f2]
      refine p_bent (noteN k) W.length 3 (by omega) 4 (n + 3) q body _ (by omega) hb.1 hb.2 fun body1 q hl1 hb1 => ?_
      simp! only [own_src, ho, hf, f1, f2]
      refine p_bent (noteN k) W.length (3 + 1) (by omega) 4 (n + 3) q body1 _ (by omega) (by have := hb.1; omega) hb1 fun body2 q hl2 hb2 => ?_
      have hsz2 := t_size (noteN k) W.length (3 + 1 + 1) 4 (n + 5) body2 hb2
      rw [show n + 5 + 4 + 1 = n + 10 from rfl] at hsz2
      by_cases hs : (szL body2 : Int) ≤ 20
      · simp! only [hsz2, decide_eq_true hs]
        exact fin _ q (up _ _ (by omega) (by have := hb.1; omega) hb2) (by omega)
      · simp! only [hsz2, decide_eq_false hs, ho, hf]
        exact K _ W _ _ q nob
  · simp! only [decide_eq_false h3, own_src]
    refine p_of (by show 0 < 3; decide) (by show 3 ≤ 1000; decide) fun x q hx => ?_
    have hx : ∃ N ws, x = .lst false ws ∧ NOk N ∧ WordsOk N ws ∧ ((N = [wCount] ∧ (ws.any fun y => eqb y (.str wCount)) = true) ∨ (N = [sMost, sLeast] ∧ (ws.any fun y => eqb y (.str wCount)) = false)) ∧ dats 60 ws = true := by
      simp only [List.mem_cons, List.not_mem_nil, or_false] at hx
      rcases hx with rfl | rfl | rfl
      · exact ⟨[wCount], _, rfl, .inl rfl, ⟨by show 0 < 2; decide, by show 2 ≤ 10; decide, fun x hx => by simp at hx; rcases hx with rfl | rfl <;> simp [wCount]⟩, .inl ⟨rfl, rfl⟩, rfl⟩
      · exact ⟨[sMost, sLeast], _, rfl, .inr rfl, ⟨by show 0 < 2; decide, by show 2 ≤ 10; decide, fun x hx => by simp at hx; rcases hx with rfl | rfl <;> simp [sMost, sLeast]⟩, .inr ⟨rfl, rfl⟩, rfl⟩
      · exact ⟨[sMost, sLeast], _, rfl, .inr rfl, ⟨by show 0 < 2; decide, by show 2 ≤ 10; decide, fun x hx => by simp at hx; rcases hx with rfl | rfl <;> simp [sMost, sLeast]⟩, .inr ⟨rfl, rfl⟩, rfl⟩
    obtain ⟨N, ws, rfl, hN, hws, hcase, hdat⟩ := hx
    obtain ⟨F1, F2⟩ := p_stmt_body N W ws hW hN hws 2
    unfold wCount at hcase
    have rest : ∀ (b : T) (q : Int × Int) (y : Option T), Vi.own b = false → fz b = b → ((N = [wCount] ∧ ∃ i : Int, b = .int i ∧ -1 ≤ i ∧ i ≤ 9) ∨ (N = [sMost, sLeast] ∧ (b = .non ∨ ∃ i : Int, b = .int i ∧ -1 ≤ i ∧ i ≤ 9))) →
        Pt (fun f e => match f with
          | .ret t => Q t (ou [0] 0 l_loop.ps e)
          | .nx => Q .non (ou [0] 0 l_loop.ps e)
          | _ => False) (exs ⟨gl, prog.tab (n + 10)⟩ lpRest [some (srcT q), some (.lst false ws), some b, none, some (tupI W), some (.int v), none, none]) := by
      intro b q y hbo hbf hbn
      rw [show lpRest = .cons _ (.cons _ lpEnd) from rfl]
      simp! only [own_src, ho, hf]
      refine F2 n q 6 _ (fun l1 q h1 h2 => ?_) (by omega) (by omega) (by omega)
      simp! only [own_src]
      have Ts : ∀ x ∈ [T.tup [.bl true, .tup [.str wAhead]]], Test W.length 9 x := fun x hx => by
        simp only [List.mem_singleton] at hx; subst hx; exact ⟨true, _, rfl, .ahead⟩
      have S1 : Stm N W.length 9 4 (.tup [.str wWhile, .tup [.tup [.bl true, .tup [.str wAhead]]], .tup l1]) := .whl 3 _ _ Ts (by show 1 ≤ 3; omega) (fun x hx => (((h1 x hx).mono (fun _ h => h) (by omega)).up)) (by omega)
      refine p_draw (by omega) (by omega) fun u q hu0 hu1 => ?_
      have fin : ∀ body q, Body N W.length 9 4 body → Pt (fun f e => match f with
          | .ret t => Q t (ou [0] 0 l_loop.ps e)
          | .nx => Q .non (ou [0] 0 l_loop.ps e)
          | _ => False) (exs ⟨gl, prog.tab (n + 10)⟩ lpEnd [some (srcT q), some (.lst false ws), some b, some (.tup body), some (tupI W), some (.int v), none, none]) := by
        intro body q hb
        have hsz2 := t_size N W.length 9 4 (n + 5) body hb.2
        rw [show n + 5 + 4 + 1 = n + 10 from rfl] at hsz2
        by_cases hs : (szL body : Int) ≤ 20
        · simp! only [lpEnd, l_loop, hsz2, decide_eq_true hs, ho, hf, hbo, hbf]
          exact K N W b body q ⟨hW, hbn, hb, by omega⟩
        · simp! only [lpEnd, l_loop, hsz2, decide_eq_false hs, ho, hf, hbo, hbf]
          exact K N W b [] q ⟨hW, hbn, ⟨by simp, fun x hx => by simp at hx⟩, by rw [szL_nil]; omega⟩
      by_cases hu : (u == 0) = true
      · simp! only [hu, own_src, ho, hf]
        refine F2 n q 2 _ (fun l2 q h3 h4 => ?_) (by omega) (by omega) (by omega)
        have n1 : decide (1 + l2.length ≤ line) = true := dl (by omega)
        simp! only [n1]
        refine fin _ q ⟨by simp; omega, fun x hx => ?_⟩
        rcases List.mem_cons.mp hx with rfl | hx
        · exact S1
        · exact (((h3 x hx).mono (fun _ h => h) (by omega)).up).up
      · have hu : (u == 0) = false := by simpa using hu
        simp! only [hu]
        refine fin _ q ⟨by simp, fun x hx => ?_⟩
        simp only [List.mem_singleton] at hx
        subst hx
        exact S1
    simp! only [hdat]
    rcases hcase with ⟨hN1, hc⟩ | ⟨hN1, hc⟩
    · simp! only [hc, own_src]
      refine p_of (by show 0 < 3; decide) (by show 3 ≤ 1000; decide) fun x q hx => ?_
      have hx : ∃ i : Int, x = .int i ∧ -1 ≤ i ∧ i ≤ 9 := by
        simp only [List.mem_cons, List.not_mem_nil, or_false] at hx
        rcases hx with rfl | rfl | rfl <;> exact ⟨_, rfl, by omega, by omega⟩
      obtain ⟨i, rfl, hi0, hi1⟩ := hx
      simp! only []
      exact rest (.int i) q none rfl rfl (.inl ⟨hN1, i, rfl, hi0, hi1⟩)
    · simp! only [hc, own_src]
      refine p_of (by show 0 < 5; decide) (by show 5 ≤ 1000; decide) fun x q hx => ?_
      have hx : x = .non ∨ ∃ i : Int, x = .int i ∧ -1 ≤ i ∧ i ≤ 9 := by
        simp only [List.mem_cons, List.not_mem_nil, or_false] at hx
        rcases hx with rfl | rfl | rfl | rfl | rfl
        · exact .inr ⟨_, rfl, by omega, by omega⟩
        · exact .inr ⟨_, rfl, by omega, by omega⟩
        · exact .inl rfl
        · exact .inr ⟨_, rfl, by omega, by omega⟩
        · exact .inr ⟨_, rfl, by omega, by omega⟩
      rcases hx with rfl | ⟨i, rfl, hi0, hi1⟩
      · simp! only []
        exact rest .non q none rfl rfl (.inr ⟨hN1, .inl rfl⟩)
      · simp! only []
        exact rest (.int i) q none rfl rfl (.inr ⟨hN1, .inr ⟨i, rfl, hi0, hi1⟩⟩)
end ViLaw

set_option maxRecDepth 100000
set_option maxHeartbeats 2000000
set_option linter.all false
set_option autoImplicit false
namespace ViLaw
open Vi
/-! ### the program's looks at values, for any data -/
def numB (lo hi : Int) : T → Bool
  | .int i => decide (lo ≤ i) && decide (i ≤ hi)
  | _ => false
def inB (ws : List (List Nat)) : T → Bool
  | .str s => ws.any fun w => w == s
  | _ => false
def factB (m : Nat) : T → Bool
  | .tup (.str w :: r) => bif w == wAhead then r.isEmpty else match r with
    | [a, b] => bif w == wAt then inB [wLeft, wRight] a && inB (([97, 98, 99].take m).map fun c => [c]) b else (wSum == w || sSize == w) && (inB [wIs, wOver] a && numB 0 9 b)
    | _ => false
  | _ => false
def testB (m : Nat) : T → Bool
  | .tup [.bl _, f] => factB m f
  | _ => false
def testsB (m : Nat) : T → Bool
  | .tup l => decide (l.length ≤ 3) && l.all (testB m)
  | _ => false
def bodyF (f : T → Bool) : T → Bool
  | .tup l => decide (l.length ≤ 8) && l.all f
  | _ => false
def plainW (w : List Nat) : Bool := wAdd == w || (wTake == w || (wRight == w || (wLeft == w || wStop == w)))
def stmtB (m : Nat) : Nat → T → Bool
  | 0, _ => false
  | d + 1, .tup (.str w :: r) =>
    bif plainW w then r.isEmpty
    else bif sMost == w || sLeast == w then (match r with | [a] => inB [sSize, wSum] a | _ => false)
    else bif w == wCount then (match r with | [a] => inB [sSize, wOne] a | _ => false)
    else bif w == wWhile then (match r with | [t, b] => testsB m t && bodyF (stmtB m d) b | _ => false)
    else bif w == wIf then (match r with | [t, b, c] => testsB m t && (bodyF (stmtB m d) b && bodyF (stmtB m d) c) | _ => false)
    else false
  | _ + 1, _ => false
def worthsB : T → Bool
  | .tup l => (decide (1 ≤ l.length) && decide (l.length ≤ 3)) && l.all (numB 1 3)
  | _ => false
def beginB : T → Bool
  | .non => true
  | t => numB (-1) 9 t
theorem t_is_number (n : Nat) (t : T) (lo hi : Int) (k : Nat) (h : dt k t = true) : prog.tab (n + 1) 0 [t, .int lo, .int hi] = .ret (.bl (numB lo hi t)) [none, none, none] := by
  refine Pe_ret ?_
  rw [tabs n 0 d_is_number _ rfl]
  cases t with
  | int i =>
    by_cases h1 : lo ≤ i
    · simp! only [d_is_number, decide_eq_true h1]
      exact ⟨by simp [numB, h1], rfl⟩
    · simp! only [d_is_number, decide_eq_false h1]
      exact ⟨by simp [numB, h1], rfl⟩
  | und => cases k <;> exact absurd h (by simp [dt])
  | dic _ _ => cases k <;> exact absurd h (by simp [dt])
  | _ =>
    simp! only [d_is_number]
    exact ⟨rfl, rfl⟩
theorem any_str (s : List Nat) : ∀ ws : List (List Nat), ((ws.map T.str).any fun y => eqb y (.str s)) = ws.any fun w => w == s
  | [] => rfl
  | w :: ws => by rw [List.map_cons, List.any_cons, List.any_cons, any_str s ws, eqb_ss]
theorem all_flat : ∀ ws : List (List Nat), (ws.map T.str).all flat = true
  | [] => rfl
  | w :: ws => by rw [List.map_cons, List.all_cons, all_flat ws]; rfl
theorem dats_str (k : Nat) : ∀ ws : List (List Nat), dats k (ws.map T.str) = true
  | [] => dats_n k
  | w :: ws => by rw [List.map_cons, dats_c, dats_str k ws, dat_s]; rfl
theorem t_is_among (n : Nat) (ws : List (List Nat)) (t : T) (k : Nat) (h : dt k t = true) : prog.tab (n + 1) 1 [.tup (ws.map .str), t] = .ret (.bl (inB ws t)) [none, none] := by
  refine Pe_ret ?_
  rw [tabs n 1 d_is_among _ rfl]
  cases t with
  | str s =>
    simp! only [d_is_among, all_flat, any_str]
    exact ⟨rfl, rfl⟩
  | und => cases k <;> exact absurd h (by simp [dt])
  | dic _ _ => cases k <;> exact absurd h (by simp [dt])
  | _ =>
    simp! only [d_is_among]
    exact ⟨rfl, rfl⟩
theorem t_is_amongL (n : Nat) (ws : List (List Nat)) (t : T) (k : Nat) (h : dt k t = true) : prog.tab (n + 1) 1 [.lst false (ws.map .str), t] = .ret (.bl (inB ws t)) [none, none] := by
  refine Pe_ret ?_
  rw [tabs n 1 d_is_among _ rfl]
  cases t with
  | str s =>
    simp! only [d_is_among, dats_str, any_str]
    exact ⟨rfl, rfl⟩
  | und => cases k <;> exact absurd h (by simp [dt])
  | dic _ _ => cases k <;> exact absurd h (by simp [dt])
  | _ =>
    simp! only [d_is_among]
    exact ⟨rfl, rfl⟩
theorem gl_LETTERS : gl[0]? = some (.str [97, 98, 99]) := rfl
theorem gl_PLAIN : gl[1]? = some (.tup [.str wAdd, .str wTake, .str wRight, .str wLeft, .str wStop]) := rfl
theorem t_is_worths (n : Nat) (v : T) (k : Nat) (h : dt k v = true) : prog.tab (n + 2) 2 [v] = .ret (.bl (worthsB v)) [none] := by
  refine Pe_ret ?_
  rw [tabs (n + 1) 2 d_is_worths _ rfl]
  cases v with
  | tup l =>
    obtain ⟨k, rfl⟩ : ∃ j, k = j + 1 := by
      cases k with
      | zero => exact absurd h (by simp [dt])
      | succ k => exact ⟨k, rfl⟩
    have h : dts k l = true := h
    by_cases h1 : (1 : Int) ≤ l.length
    · by_cases h3 : (l.length : Int) ≤ 3
      · simp! only [d_is_worths, decide_eq_true h1, decide_eq_true h3]
        refine turns_m (fun e => ∃ y, e = [some (.tup l), y]) (fun x => .bl (numB 1 3 x)) ⟨none, rfl⟩ (by show l.length ≤ 16777216; omega) (fun x hx e he => ?_) (fun e he => ?_)
        · obtain ⟨y, rfl⟩ := he
          have hd := dts_mem h x hx
          simp! only [dt_own hd, dt_fz hd, t_is_number n x 1 3 k hd]
          exact ⟨rfl, _, rfl⟩
        · obtain ⟨y, rfl⟩ := he
          simp! only [bls_m, all_m]
          exact ⟨by simp [worthsB, show 1 ≤ l.length by omega, show l.length ≤ 3 by omega], rfl⟩
      · simp! only [d_is_worths, decide_eq_true h1, decide_eq_false h3]
        exact ⟨by simp [worthsB, show ¬ l.length ≤ 3 by omega], rfl⟩
    · simp! only [d_is_worths, decide_eq_false h1]
      exact ⟨by simp [worthsB, show l.length = 0 by omega], rfl⟩
  | und => cases k <;> exact absurd h (by simp [dt])
  | dic _ _ => cases k <;> exact absurd h (by simp [dt])
  | _ =>
    simp! only [d_is_worths]
    exact ⟨rfl, rfl⟩
theorem filter_str (l : List Nat) : (l.map fun c => T.str [c]).filterMap some = l.map fun c => T.str [c] := by simp
theorem len4 {α : Type} (a b c : α) (r : List α) (x : α) : ((((x :: a :: b :: c :: r).length : Nat) : Int) == 3) = false := by
  rw [beq_eq_false_iff_ne]; simp only [List.length_cons]; omega
theorem t_is_fact (n m : Nat) (hm : m ≤ 3) (v : T) (k : Nat) (hk : k ≤ 60) (h : dt k v = true) : prog.tab (n + 2) 3 [.int (m : Int), v] = .ret (.bl (factB m v)) [none, none] := by
  refine Pe_ret ?_
  rw [tabs (n + 1) 3 d_is_fact _ rfl]
  cases v with
  | tup l =>
    obtain ⟨k, rfl⟩ : ∃ j, k = j + 1 := by
      cases k with
      | zero => exact absurd h (by simp [dt])
      | succ k => exact ⟨k, rfl⟩
    have h : dts k l = true := h
    cases l with
    | nil => simp! only [d_is_fact]; exact ⟨rfl, rfl⟩
    | cons a r =>
      rw [dts_c, Bool.and_eq_true] at h
      obtain ⟨ha, hr⟩ := h
      have g1 : dats 63 r = true := dts_dat hr (by omega)
      cases a with
      | str w =>
        have e2 : eqbs (T.str w :: r) [] = false := rfl
        cases hw : (w == [97, 104, 101, 97, 100]) with
        | true =>
          simp! only [d_is_fact, g1, hw]
          refine ⟨?_, rfl⟩
          show T.bl _ = T.bl (bif w == wAhead then r.isEmpty else _)
          rw [show (w == wAhead) = true from hw]
          cases r with
          | nil => rfl
          | cons b r => rw [cond_true]; congr 1
        | false =>
          have F : ∀ r, factB m (.tup (.str w :: r)) = match r with
            | [a, b] => bif w == wAt then inB [wLeft, wRight] a && inB (([97, 98, 99].take m).map fun c => [c]) b else (wSum == w || sSize == w) && (inB [wIs, wOver] a && numB 0 9 b)
            | _ => false := fun r => by
              show (bif w == wAhead then r.isEmpty else _) = _
              rw [show (w == wAhead) = false from hw]; rfl
          match r, hr, g1 with
          | [], _, g1 => rw [F]; simp! only [d_is_fact, hw]; exact ⟨rfl, rfl⟩
          | [a], _, g1 =>
            rw [F]
            rw [dats_c, dats_n, Bool.and_true] at g1
            simp! only [d_is_fact, g1, hw]; exact ⟨rfl, rfl⟩
          | a :: b :: c :: r, _, g1 =>
            rw [F]
            have l4 := len4 a b c r (.str w)
            simp only [List.length_cons] at l4
            simp! only [d_is_fact, g1, hw, l4]
            exact ⟨rfl, rfl⟩
          | [a, b], hr, g1 =>
            rw [dts_c, dts_c, dts_n, Bool.and_true, Bool.and_eq_true] at hr
            obtain ⟨h1, h2⟩ := hr
            have d1 := dt_dat h1 (show k ≤ 63 by omega)
            have d2 := dt_dat h2 (show k ≤ 63 by omega)
            cases hat : (w == [97, 116]) with
            | true =>
              have ta : prog.tab (n + 1) 1 [.tup [.str [108, 101, 102, 116], .str [114, 105, 103, 104, 116]], a] = .ret (.bl (inB [wLeft, wRight] a)) [none, none] := t_is_among n [wLeft, wRight] a k h1
              have R : (bif w == wAt then inB [wLeft, wRight] a && inB (([97, 98, 99].take m).map fun c => [c]) b else (wSum == w || sSize == w) && (inB [wIs, wOver] a && numB 0 9 b)) = (inB [wLeft, wRight] a && inB (([97, 98, 99].take m).map fun c => [c]) b) := by
                rw [show (w == wAt) = true from hat]; rfl
              rw [(F [a, b]).trans R]
              cases hin : inB [wLeft, wRight] a with
              | false =>
                rw [hin] at ta
                simp! only [d_is_fact, d1, d2, hw, hat, dt_own h1, dt_fz h1, ta]
                exact ⟨rfl, rfl⟩
              | true =>
                rw [hin] at ta
                simp! only [d_is_fact, d1, d2, hw, hat, dt_own h1, dt_fz h1, ta, gl_LETTERS, cut_to]
                refine turns_m (fun e => ∃ y, e = [some (.int (m : Int)), some (.tup [.str w, a, b]), y]) (fun x => x) ⟨none, rfl⟩ (by show List.length _ ≤ 16777216; rw [List.length_map, List.length_take]; simp only [List.length_cons, List.length_nil]; omega) (fun x hx e he => ?_) (fun e he => ?_)
                · obtain ⟨y, rfl⟩ := he
                  obtain ⟨c, _, rfl⟩ := List.mem_map.mp hx
                  simp! only []
                  exact ⟨rfl, _, rfl⟩
                · obtain ⟨y, rfl⟩ := he
                  have tb : prog.tab (n + 1) 1 [.lst false ((([97, 98, 99].take m).map fun c => T.str [c]).map fun x => x), b] = .ret (.bl (inB (([97, 98, 99].take m).map fun c => [c]) b)) [none, none] := by
                    have := t_is_amongL n (([97, 98, 99].take m).map fun c => [c]) b k h2
                    rw [List.map_map] at this
                    rw [List.map_id']
                    exact this
                  simp! only [dt_own h2, dt_fz h2, tb]
                  exact ⟨rfl, rfl⟩
            | false =>
              have R : (bif w == wAt then inB [wLeft, wRight] a && inB (([97, 98, 99].take m).map fun c => [c]) b else (wSum == w || sSize == w) && (inB [wIs, wOver] a && numB 0 9 b)) = ((wSum == w || sSize == w) && (inB [wIs, wOver] a && numB 0 9 b)) := by
                rw [show (w == wAt) = false from hat]; rfl
              rw [(F [a, b]).trans R]
              have ta : prog.tab (n + 1) 1 [.tup [.str [105, 115], .str [111, 118, 101, 114]], a] = .ret (.bl (inB [wIs, wOver] a)) [none, none] := t_is_among n [wIs, wOver] a k h1
              cases h3 : (wSum == w || sSize == w) with
              | false =>
                unfold wSum sSize at h3
                simp! only [d_is_fact, d1, d2, hw, hat, h3]
                exact ⟨rfl, rfl⟩
              | true =>
                unfold wSum sSize at h3
                cases hin : inB [wIs, wOver] a with
                | false =>
                  rw [hin] at ta
                  simp! only [d_is_fact, d1, d2, hw, hat, h3, dt_own h1, dt_fz h1, ta]
                  exact ⟨rfl, rfl⟩
                | true =>
                  rw [hin] at ta
                  simp! only [d_is_fact, d1, d2, hw, hat, h3, dt_own h1, dt_fz h1, ta, dt_own h2, dt_fz h2, t_is_number n b 0 9 k h2]
                  exact ⟨rfl, rfl⟩
      | und => cases k <;> exact absurd ha (by simp [dt])
      | dic _ _ => cases k <;> exact absurd ha (by simp [dt])
      | _ =>
        have g2 := dt_dat ha (show k ≤ 63 by omega)
        simp! only [d_is_fact, g1, g2]
        exact ⟨rfl, rfl⟩
  | und => cases k <;> exact absurd h (by simp [dt])
  | dic _ _ => cases k <;> exact absurd h (by simp [dt])
  | _ =>
    simp! only [d_is_fact]
    exact ⟨rfl, rfl⟩
end ViLaw

set_option maxRecDepth 100000
set_option maxHeartbeats 2000000
set_option linter.all false
set_option autoImplicit false
namespace ViLaw
open Vi
theorem dt_tup {k : Nat} {l : List T} (h : dt k (.tup l) = true) : ∃ j, k = j + 1 ∧ dts j l = true := by
  cases k with
  | zero => exact absurd h (by simp [dt])
  | succ k => exact ⟨k, rfl, h⟩
theorem dt_lst {k : Nat} {o : Bool} {l : List T} (h : dt k (.lst o l) = true) : ∃ j, k = j + 1 ∧ dts j l = true ∧ o = false := by
  cases k with
  | zero => exact absurd h (by simp [dt])
  | succ k =>
    have h : (!o && dts k l) = true := h
    rw [Bool.and_eq_true] at h
    exact ⟨k, rfl, h.2, by simpa using h.1⟩
/-- a pair -/
def pairB : T → Bool
  | .tup l => decide (l.length = 2)
  | _ => false
theorem pair_of {t : T} (h : pairB t = true) : ∃ a b, t = .tup [a, b] := by
  cases t with
  | tup l =>
    have h : l.length = 2 := by simpa [pairB] using h
    match l, h with
    | [a, b], _ => exact ⟨a, b, rfl⟩
  | _ => exact absurd h (by simp [pairB])
def isBl : T → Bool
  | .bl _ => true
  | _ => false
theorem isi_bool {k : Nat} {t : T} (h : dt k t = true) : isiT .bool t = some (isBl t) := by
  cases t with
  | und => cases k <;> exact absurd h (by simp [dt])
  | dic _ _ => cases k <;> exact absurd h (by simp [dt])
  | _ => rfl
theorem testB_pair (m : Nat) (a b : T) : testB m (.tup [a, b]) = (isBl a && factB m b) := by
  cases a <;> rfl
theorem t_are_tests (n m : Nat) (hm : m ≤ 3) (v : T) (k : Nat) (hk : k ≤ 60) (h : dt k v = true) : prog.tab (n + 3) 4 [.int (m : Int), v] = .ret (.bl (testsB m v)) [none, none] := by
  refine Pe_ret ?_
  rw [tabs (n + 2) 4 d_are_tests _ rfl]
  cases v with
  | tup l =>
    obtain ⟨k, rfl, h'⟩ := dt_tup h
    replace h := h'
    by_cases h3 : (3 : Int) < l.length
    · simp! only [d_are_tests, decide_eq_true h3]
      exact ⟨by simp [testsB, show ¬ l.length ≤ 3 by omega], rfl⟩
    · have hl : l.length ≤ line := by show l.length ≤ 16777216; omega
      simp! only [d_are_tests, decide_eq_false h3]
      refine turns_m (fun e => ∃ y, e = [some (.int (m : Int)), some (.tup l), y, none, none]) (fun x => .bl (pairB x)) ⟨none, rfl⟩ hl (fun x hx e he => ?_) (fun e he => ?_)
      · obtain ⟨y, rfl⟩ := he
        have hd := dts_mem h x hx
        cases x with
        | tup q =>
          simp! only []
          refine ⟨?_, _, rfl⟩
          show some (T.bl _) = some (T.bl (decide (q.length = 2)))
          congr 2
          by_cases hq : q.length = 2
          · rw [decide_eq_true hq, beq_iff_eq]; omega
          · rw [decide_eq_false hq, beq_eq_false_iff_ne]; omega
        | und => cases k <;> exact absurd hd (by simp [dt])
        | dic _ _ => cases k <;> exact absurd hd (by simp [dt])
        | lst o q =>
          obtain ⟨j, rfl, _, rfl⟩ := dt_lst hd
          simp! only []
          exact ⟨rfl, _, rfl⟩
        | _ =>
          simp! only []
          exact ⟨rfl, _, rfl⟩
      · obtain ⟨y, rfl⟩ := he
        cases hp : l.all pairB with
        | false =>
          simp! only [bls_m, all_m, hp]
          refine ⟨?_, rfl⟩
          have : l.all (testB m) = false := by
            rw [List.all_eq_false] at hp ⊢
            obtain ⟨x, hx, hp⟩ := hp
            refine ⟨x, hx, fun h => hp ?_⟩
            match x, h with
            | .tup [.bl b, f], _ => rfl
          simp [testsB, this]
        | true =>
          rw [List.all_eq_true] at hp
          have hp2 : l.all pairB = true := by rw [List.all_eq_true]; exact hp
          simp! only [bls_m, all_m, hp2]
          refine turns_m (fun e => ∃ x y z, e = [some (.int (m : Int)), some (.tup l), x, y, z]) (fun x => .bl (testB m x)) ⟨_, _, _, rfl⟩ hl (fun x hx e he => ?_) (fun e he => ?_)
          · obtain ⟨y0, y, z, rfl⟩ := he
            have hd := dts_mem h x hx
            obtain ⟨a, b, rfl⟩ := pair_of (hp x hx)
            obtain ⟨j, rfl, hd2⟩ := dt_tup hd
            rw [dts_c, dts_c, dts_n, Bool.and_true, Bool.and_eq_true] at hd2
            replace hd := hd2
            rw [testB_pair]
            cases hb : isBl a with
            | false =>
              simp! only [isi_bool hd.1, hb]
              exact ⟨rfl, _, _, _, rfl⟩
            | true =>
              simp! only [isi_bool hd.1, hb, dt_own hd.2, dt_fz hd.2, t_is_fact n m hm b j (by omega) hd.2]
              exact ⟨rfl, _, _, _, rfl⟩
          · obtain ⟨y0, y, z, rfl⟩ := he
            simp! only [bls_m, all_m]
            exact ⟨by simp [testsB, show l.length ≤ 3 by omega], rfl⟩
  | lst o l =>
    obtain ⟨k, rfl, _, rfl⟩ := dt_lst h
    simp! only [d_are_tests]
    exact ⟨rfl, rfl⟩
  | und => cases k <;> exact absurd h (by simp [dt])
  | dic _ _ => cases k <;> exact absurd h (by simp [dt])
  | _ =>
    simp! only [d_are_tests]
    exact ⟨rfl, rfl⟩
theorem int_ne {a : Nat} {b : Int} (h : (a : Int) ≠ b) : (((a : Nat) : Int) == b) = false := by
  rw [beq_eq_false_iff_ne]; exact h
theorem t_body_of (m d : Nat) (S : ∀ n v k, k ≤ 60 → dt k v = true → prog.tab (n + 2 * d + 3) 5 [.int (m : Int), v, .int (d : Int)] = .ret (.bl (stmtB m d v)) [none, none, none]) (n : Nat) (v : T) (k : Nat) (hk : k ≤ 60) (h : dt k v = true) :
    prog.tab (n + 2 * d + 4) 6 [.int (m : Int), v, .int (d : Int)] = .ret (.bl (bodyF (stmtB m d) v)) [none, none, none] := by
  refine Pe_ret ?_
  rw [tabs _ 6 d_is_body _ rfl]
  cases v with
  | tup l =>
    obtain ⟨k, rfl, h'⟩ := dt_tup h
    replace h := h'
    by_cases h8 : (8 : Int) < l.length
    · simp! only [d_is_body, decide_eq_true h8]
      exact ⟨by simp [bodyF, show ¬ l.length ≤ 8 by omega], rfl⟩
    · simp! only [d_is_body, decide_eq_false h8]
      refine turns_m (fun e => ∃ y, e = [some (.int (m : Int)), some (.tup l), some (.int (d : Int)), y]) (fun x => .bl (stmtB m d x)) ⟨none, rfl⟩ (by show l.length ≤ 16777216; omega) (fun x hx e he => ?_) (fun e he => ?_)
      · obtain ⟨y, rfl⟩ := he
        have hd := dts_mem h x hx
        simp! only [dt_own hd, dt_fz hd, S n x k (by omega) hd]
        exact ⟨rfl, _, rfl⟩
      · obtain ⟨y, rfl⟩ := he
        simp! only [bls_m, all_m]
        exact ⟨by simp [bodyF, show l.length ≤ 8 by omega], rfl⟩
  | lst o l =>
    obtain ⟨k, rfl, _, rfl⟩ := dt_lst h
    simp! only [d_is_body]
    exact ⟨rfl, rfl⟩
  | und => cases k <;> exact absurd h (by simp [dt])
  | dic _ _ => cases k <;> exact absurd h (by simp [dt])
  | _ =>
    simp! only [d_is_body]
    exact ⟨rfl, rfl⟩
theorem bcase (b : Bool) : b = true ∨ b = false := by cases b <;> simp
theorem t_stmt0 (m n : Nat) (v : T) (k : Nat) (hk : k ≤ 60) (h : dt k v = true) (d : Nat) (hd : d = 0) : prog.tab (n + 2 * d + 3) 5 [.int (m : Int), v, .int (d : Int)] = .ret (.bl (stmtB m d v)) [none, none, none] := by
  subst hd
  refine Pe_ret ?_
  rw [tabs _ 5 d_is_statement _ rfl]
  cases v with
  | tup l =>
    obtain ⟨k, rfl, h'⟩ := dt_tup h
    replace h := h'
    cases l with
    | nil => simp! only [d_is_statement]; exact ⟨rfl, rfl⟩
    | cons a r =>
      have g1 := dts_dat h (show k ≤ 63 by omega)
      rw [dts_c, Bool.and_eq_true] at h
      rw [dats_c, Bool.and_eq_true] at g1
      cases a with
      | str w => simp! only [d_is_statement, g1.1, g1.2]; exact ⟨rfl, rfl⟩
      | lst o l =>
        obtain ⟨k, rfl, _, rfl⟩ := dt_lst h.1
        simp! only [d_is_statement, g1.1, g1.2]; exact ⟨rfl, rfl⟩
      | und => cases k <;> exact absurd h.1 (by simp [dt])
      | dic _ _ => cases k <;> exact absurd h.1 (by simp [dt])
      | _ => simp! only [d_is_statement, g1.1, g1.2]; exact ⟨rfl, rfl⟩
  | lst o l =>
    obtain ⟨k, rfl, _, rfl⟩ := dt_lst h
    simp! only [d_is_statement]
    exact ⟨rfl, rfl⟩
  | und => cases k <;> exact absurd h (by simp [dt])
  | dic _ _ => cases k <;> exact absurd h (by simp [dt])
  | _ =>
    simp! only [d_is_statement]
    exact ⟨rfl, rfl⟩
theorem stmtB_while (m d : Nat) (r : List T) : stmtB m (d + 1) (.tup (.str wWhile :: r)) = (match r with | [t, b] => testsB m t && bodyF (stmtB m d) b | _ => false) := rfl
theorem stmtB_if (m d : Nat) (r : List T) : stmtB m (d + 1) (.tup (.str wIf :: r)) = (match r with | [t, b, c] => testsB m t && (bodyF (stmtB m d) b && bodyF (stmtB m d) c) | _ => false) := rfl
theorem stmtB_plain (m d : Nat) (w : List Nat) (r : List T) (h : plainW w = true) : stmtB m (d + 1) (.tup (.str w :: r)) = r.isEmpty := by
  show (bif plainW w then _ else _) = _
  rw [h]; rfl
theorem stmtB_note (m d : Nat) (w : List Nat) (r : List T) (h : plainW w = false) (h2 : (sMost == w || sLeast == w) = true) : stmtB m (d + 1) (.tup (.str w :: r)) = (match r with | [a] => inB [sSize, wSum] a | _ => false) := by
  show (bif plainW w then _ else bif sMost == w || sLeast == w then _ else _) = _
  rw [h, h2]; rfl
theorem stmtB_count (m d : Nat) (r : List T) : stmtB m (d + 1) (.tup (.str wCount :: r)) = (match r with | [a] => inB [sSize, wOne] a | _ => false) := rfl
theorem stmtB_no (m d : Nat) (w : List Nat) (r : List T) (h : plainW w = false) (h2 : (sMost == w || sLeast == w) = false) (h3 : (w == wCount) = false) (h4 : (w == wWhile) = false) (h5 : (w == wIf) = false) : stmtB m (d + 1) (.tup (.str w :: r)) = false := by
  show (bif plainW w then _ else bif sMost == w || sLeast == w then _ else bif w == wCount then _ else bif w == wWhile then _ else bif w == wIf then _ else _) = _
  rw [h, h2, h3, h4, h5]; rfl
theorem t_stmt_succ (m : Nat) (hm : m ≤ 3) (d : Nat) (ih : ∀ n v k, k ≤ 60 → dt k v = true → prog.tab (n + 2 * d + 4) 6 [.int (m : Int), v, .int (d : Int)] = .ret (.bl (bodyF (stmtB m d) v)) [none, none, none])
    (n : Nat) (v : T) (k : Nat) (hk : k ≤ 60) (h : dt k v = true) : prog.tab (n + 2 * (d + 1) + 3) 5 [.int (m : Int), v, .int ((d + 1 : Nat) : Int)] = .ret (.bl (stmtB m (d + 1) v)) [none, none, none] := by
  refine Pe_ret ?_
  rw [show n + 2 * (d + 1) + 3 = (n + 2 * d + 4) + 1 by omega, tabs _ 5 d_is_statement _ rfl]
  have e1 : decide (((d + 1 : Nat) : Int) < 1) = false := decide_eq_false (by omega)
  have e2 : ((d + 1 : Nat) : Int) - 1 = (d : Int) := by omega
  cases v with
  | tup l =>
    obtain ⟨k, rfl, h'⟩ := dt_tup h
    replace h := h'
    cases l with
    | nil => simp! only [d_is_statement]; exact ⟨rfl, rfl⟩
    | cons a r =>
      have g1 := dts_dat h (show k ≤ 63 by omega)
      rw [dts_c, Bool.and_eq_true] at h
      rw [dats_c, Bool.and_eq_true] at g1
      cases a with
      | str w =>
        have hr := h.2
        have g2 := g1.2
        by_cases hw : w = wWhile
        · subst hw
          rw [stmtB_while]
          match r, hr, g2 with
          | [], _, g2 => simp! only [d_is_statement, g2, e1, wWhile, gl_PLAIN, wAdd, wTake, wRight, wLeft, wStop]; exact ⟨rfl, rfl⟩
          | [t], _, g2 => simp! only [d_is_statement, g2, e1, wWhile, gl_PLAIN, wAdd, wTake, wRight, wLeft, wStop]; exact ⟨rfl, rfl⟩
          | t :: b :: c :: r, _, g2 =>
            have l4 := len4 t b c r (.str wWhile)
            simp only [List.length_cons, wWhile] at l4
            simp! only [d_is_statement, g2, e1, l4, wWhile, gl_PLAIN, wAdd, wTake, wRight, wLeft, wStop]
            exact ⟨rfl, rfl⟩
          | [t, b], hr, g2 =>
            rw [dts_c, dts_c, dts_n, Bool.and_true, Bool.and_eq_true] at hr
            have ta : prog.tab (n + 2 * d + 4) 4 [.int (m : Int), t] = .ret (.bl (testsB m t)) [none, none] := t_are_tests (n + 2 * d + 1) m hm t k (by omega) hr.1
            show Pc (Pe (.bl (testsB m t && bodyF (stmtB m d) b)) _) _
            rcases bcase (testsB m t) with q | q
            · rw [q] at ta ⊢
              simp! only [d_is_statement, g2, e1, wWhile, gl_PLAIN, wAdd, wTake, wRight, wLeft, wStop, dt_own hr.1, dt_fz hr.1, ta]
              refine turns_m (fun e => ∃ y, e = [some (.int (m : Int)), some (.tup [.str wWhile, t, b]), some (.int ((d + 1 : Nat) : Int)), y]) (fun x => .bl (bodyF (stmtB m d) x)) ⟨none, rfl⟩ (by show 1 ≤ 16777216; omega) (fun x hx e he => ?_) (fun e he => ?_)
              · obtain ⟨y, rfl⟩ := he
                simp only [List.mem_singleton] at hx
                subst hx
                simp! only [dt_own hr.2, dt_fz hr.2, e2, ih n x k (by omega) hr.2]
                exact ⟨rfl, _, rfl⟩
              · obtain ⟨y, rfl⟩ := he
                simp! only [bls_m, all_m, bls?, id]
                exact ⟨rfl, rfl⟩
            · rw [q] at ta ⊢
              simp! only [d_is_statement, g2, e1, wWhile, gl_PLAIN, wAdd, wTake, wRight, wLeft, wStop, dt_own hr.1, dt_fz hr.1, ta]
              exact ⟨rfl, rfl⟩
        by_cases hw2 : w = wIf
        · subst hw2
          rw [stmtB_if]
          match r, hr, g2 with
          | [], _, g2 => simp! only [d_is_statement, g2, e1, wIf, gl_PLAIN, wAdd, wTake, wRight, wLeft, wStop]; exact ⟨rfl, rfl⟩
          | [t], _, g2 => simp! only [d_is_statement, g2, e1, wIf, gl_PLAIN, wAdd, wTake, wRight, wLeft, wStop]; exact ⟨rfl, rfl⟩
          | [t, b], _, g2 => simp! only [d_is_statement, g2, e1, wIf, gl_PLAIN, wAdd, wTake, wRight, wLeft, wStop]; exact ⟨rfl, rfl⟩
          | t :: b :: c :: f :: r, _, g2 =>
            have l4 : ((((T.str [105, 102] :: t :: b :: c :: f :: r).length : Nat) : Int) == 4) = false := by
              rw [beq_eq_false_iff_ne]; simp only [List.length_cons]; omega
            simp only [List.length_cons] at l4
            simp! only [d_is_statement, g2, e1, l4, wIf, gl_PLAIN, wAdd, wTake, wRight, wLeft, wStop]
            exact ⟨rfl, rfl⟩
          | [t, b, c], hr, g2 =>
            rw [dts_c, dts_c, dts_c, dts_n, Bool.and_true, Bool.and_eq_true, Bool.and_eq_true] at hr
            have ta : prog.tab (n + 2 * d + 4) 4 [.int (m : Int), t] = .ret (.bl (testsB m t)) [none, none] := t_are_tests (n + 2 * d + 1) m hm t k (by omega) hr.1
            show Pc (Pe (.bl (testsB m t && (bodyF (stmtB m d) b && bodyF (stmtB m d) c))) _) _
            rcases bcase (testsB m t) with q | q
            · rw [q] at ta ⊢
              simp! only [d_is_statement, g2, e1, wIf, gl_PLAIN, wAdd, wTake, wRight, wLeft, wStop, dt_own hr.1, dt_fz hr.1, ta]
              refine turns_m (fun e => ∃ y, e = [some (.int (m : Int)), some (.tup [.str wIf, t, b, c]), some (.int ((d + 1 : Nat) : Int)), y]) (fun x => .bl (bodyF (stmtB m d) x)) ⟨none, rfl⟩ (by show 2 ≤ 16777216; omega) (fun x hx e he => ?_) (fun e he => ?_)
              · obtain ⟨y, rfl⟩ := he
                simp only [List.mem_cons, List.not_mem_nil, or_false] at hx
                rcases hx with rfl | rfl
                · simp! only [dt_own hr.2.1, dt_fz hr.2.1, e2, ih n x k (by omega) hr.2.1]
                  exact ⟨rfl, _, rfl⟩
                · simp! only [dt_own hr.2.2, dt_fz hr.2.2, e2, ih n x k (by omega) hr.2.2]
                  exact ⟨rfl, _, rfl⟩
              · obtain ⟨y, rfl⟩ := he
                simp! only [bls_m, all_m, bls?, id]
                exact ⟨rfl, rfl⟩
            · rw [q] at ta ⊢
              simp! only [d_is_statement, g2, e1, wIf, gl_PLAIN, wAdd, wTake, wRight, wLeft, wStop, dt_own hr.1, dt_fz hr.1, ta]
              exact ⟨rfl, rfl⟩
        have w1 : (wWhile == w) = false := by rw [beq_eq_false_iff_ne]; exact fun h => hw h.symm
        have w2 : (wIf == w) = false := by rw [beq_eq_false_iff_ne]; exact fun h => hw2 h.symm
        have w3 : (w == wWhile) = false := by rw [beq_eq_false_iff_ne]; exact hw
        have w4 : (w == wIf) = false := by rw [beq_eq_false_iff_ne]; exact hw2
        by_cases hw5 : w = wCount
        · subst hw5
          rw [stmtB_count]
          match r, hr, g2 with
          | [], _, g2 => simp! only [d_is_statement, g2, e1, wCount, gl_PLAIN, wAdd, wTake, wRight, wLeft, wStop]; exact ⟨rfl, rfl⟩
          | [a], hr, g2 =>
            rw [dts_c, dts_n, Bool.and_true] at hr
            have ta : prog.tab (n + 2 * d + 4) 1 [.tup [.str [115, 105, 122, 101], .str [111, 110, 101]], a] = .ret (.bl (inB [sSize, wOne] a)) [none, none] := t_is_among (n + 2 * d + 3) [sSize, wOne] a k hr
            simp! only [d_is_statement, g2, e1, wCount, gl_PLAIN, wAdd, wTake, wRight, wLeft, wStop, dt_own hr, dt_fz hr, ta]
            exact ⟨rfl, rfl⟩
          | a :: b :: r, _, g2 =>
            have l3 : ((((T.str [99, 111, 117, 110, 116] :: a :: b :: r).length : Nat) : Int) == 2) = false := by
              rw [beq_eq_false_iff_ne]; simp only [List.length_cons]; omega
            simp only [List.length_cons] at l3
            simp! only [d_is_statement, g2, e1, l3, wCount, gl_PLAIN, wAdd, wTake, wRight, wLeft, wStop]
            exact ⟨rfl, rfl⟩
        have w5 : (w == wCount) = false := by rw [beq_eq_false_iff_ne]; exact hw5
        rcases bcase (plainW w) with hp | hp
        · rw [stmtB_plain m d w r hp]
          unfold plainW at hp
          cases r with
          | nil => simp! only [d_is_statement, g2, e1, gl_PLAIN, hp]; exact ⟨rfl, rfl⟩
          | cons b r =>
            have l2 : ((((T.str w :: b :: r).length : Nat) : Int) == 1) = false := by
              rw [beq_eq_false_iff_ne]; simp only [List.length_cons]; omega
            simp only [List.length_cons] at l2
            simp! only [d_is_statement, g2, e1, gl_PLAIN, hp, l2]; exact ⟨rfl, rfl⟩
        rcases bcase (sMost == w || sLeast == w) with hn | hn
        · rw [stmtB_note m d w r hp hn]
          unfold plainW at hp
          unfold sMost sLeast at hn
          match r, hr, g2 with
          | [], _, g2 => simp! only [d_is_statement, g2, e1, gl_PLAIN, hp, hn]; exact ⟨rfl, rfl⟩
          | [a], hr, g2 =>
            rw [dts_c, dts_n, Bool.and_true] at hr
            have ta : prog.tab (n + 2 * d + 4) 1 [.tup [.str [115, 105, 122, 101], .str [115, 117, 109]], a] = .ret (.bl (inB [sSize, wSum] a)) [none, none] := t_is_among (n + 2 * d + 3) [sSize, wSum] a k hr
            simp! only [d_is_statement, g2, e1, gl_PLAIN, hp, hn, dt_own hr, dt_fz hr, ta]
            exact ⟨rfl, rfl⟩
          | a :: b :: r, _, g2 =>
            have l3 : ((((T.str w :: a :: b :: r).length : Nat) : Int) == 2) = false := by
              rw [beq_eq_false_iff_ne]; simp only [List.length_cons]; omega
            simp only [List.length_cons] at l3
            simp! only [d_is_statement, g2, e1, l3, gl_PLAIN, hp, hn]
            exact ⟨rfl, rfl⟩
        · rw [stmtB_no m d w r hp hn w5 w3 w4]
          unfold plainW at hp
          unfold sMost sLeast at hn
          unfold wCount at w5
          unfold wWhile at w1
          unfold wIf at w2
          simp! only [d_is_statement, g2, e1, gl_PLAIN, hp, hn, w5, w1, w2]
          exact ⟨rfl, rfl⟩
      | lst o l =>
        obtain ⟨k, rfl, _, rfl⟩ := dt_lst h.1
        simp! only [d_is_statement, g1.1, g1.2]; exact ⟨rfl, rfl⟩
      | und => cases k <;> exact absurd h.1 (by simp [dt])
      | dic _ _ => cases k <;> exact absurd h.1 (by simp [dt])
      | _ => simp! only [d_is_statement, g1.1, g1.2]; exact ⟨rfl, rfl⟩
  | lst o l =>
    obtain ⟨k, rfl, _, rfl⟩ := dt_lst h
    simp! only [d_is_statement]
    exact ⟨rfl, rfl⟩
  | und => cases k <;> exact absurd h (by simp [dt])
  | dic _ _ => cases k <;> exact absurd h (by simp [dt])
  | _ =>
    simp! only [d_is_statement]
    exact ⟨rfl, rfl⟩
theorem t_stmt_body (m : Nat) (hm : m ≤ 3) : ∀ (d : Nat),
    (∀ n v k, k ≤ 60 → dt k v = true → prog.tab (n + 2 * d + 3) 5 [.int (m : Int), v, .int (d : Int)] = .ret (.bl (stmtB m d v)) [none, none, none]) ∧
    (∀ n v k, k ≤ 60 → dt k v = true → prog.tab (n + 2 * d + 4) 6 [.int (m : Int), v, .int (d : Int)] = .ret (.bl (bodyF (stmtB m d) v)) [none, none, none]) := by
  intro d
  induction d with
  | zero =>
    have S : ∀ n v k, k ≤ 60 → dt k v = true → prog.tab (n + 2 * 0 + 3) 5 [.int (m : Int), v, .int ((0 : Nat) : Int)] = .ret (.bl (stmtB m 0 v)) [none, none, none] := fun n v k hk h => t_stmt0 m n v k hk h 0 rfl
    exact ⟨S, fun n v k hk h => t_body_of m 0 S n v k hk h⟩
  | succ d ih =>
    have S : ∀ n v k, k ≤ 60 → dt k v = true → prog.tab (n + 2 * (d + 1) + 3) 5 [.int (m : Int), v, .int ((d + 1 : Nat) : Int)] = .ret (.bl (stmtB m (d + 1) v)) [none, none, none] := fun n v k hk h => t_stmt_succ m hm d ih.2 n v k hk h
    exact ⟨S, fun n v k hk h => t_body_of m (d + 1) S n v k hk h⟩
end ViLaw

set_option maxRecDepth 100000
set_option maxHeartbeats 2000000
set_option linter.all false
set_option autoImplicit false
namespace ViLaw
open Vi
/-! ### recognized values are those that are meant -/
def allN : List (List Nat) := [sMost, sLeast, wCount]
theorem numB_of {lo hi : Int} {t : T} (h : numB lo hi t = true) : ∃ i, t = .int i ∧ lo ≤ i ∧ i ≤ hi := by
  cases t with
  | int i =>
    have h : (decide (lo ≤ i) && decide (i ≤ hi)) = true := h
    rw [Bool.and_eq_true, decide_eq_true_eq, decide_eq_true_eq] at h
    exact ⟨i, rfl, h.1, h.2⟩
  | _ => exact absurd h (by simp [numB])
theorem inB_of {ws : List (List Nat)} {t : T} (h : inB ws t = true) : ∃ w, t = .str w ∧ w ∈ ws := by
  cases t with
  | str s =>
    have h : (ws.any fun w => w == s) = true := h
    rw [List.any_eq_true] at h
    obtain ⟨w, hw, e⟩ := h
    rw [beq_iff_eq] at e
    exact ⟨s, rfl, e ▸ hw⟩
  | _ => exact absurd h (by simp [inB])
theorem factB_of {m : Nat} (hm : m ≤ 3) {t : T} (h : factB m t = true) : Fact m 9 t ∧ ∃ l, t = .tup l := by
  match t, h with
  | .tup (.str w :: r), h =>
    by_cases hw : w = wAhead
    · subst hw
      have h : r.isEmpty = true := h
      rw [List.isEmpty_iff] at h
      subst h
      exact ⟨.ahead, _, rfl⟩
    · have e1 : (w == wAhead) = false := by rw [beq_eq_false_iff_ne]; exact hw
      match r, h with
      | [a, b], h =>
        have h : (bif w == wAhead then false else bif w == wAt then inB [wLeft, wRight] a && inB (([97, 98, 99].take m).map fun c => [c]) b else (wSum == w || sSize == w) && (inB [wIs, wOver] a && numB 0 9 b)) = true := h
        rw [e1, cond_false] at h
        by_cases hw2 : w = wAt
        · subst hw2
          have h : (inB [wLeft, wRight] a && inB (([97, 98, 99].take m).map fun c => [c]) b) = true := h
          rw [Bool.and_eq_true] at h
          obtain ⟨e, rfl, he⟩ := inB_of h.1
          obtain ⟨c, rfl, hc⟩ := inB_of h.2
          obtain ⟨x, hx, rfl⟩ := List.mem_map.mp hc
          have : ∃ j, x = 97 + j ∧ j < m := by
            have hm : m = 0 ∨ m = 1 ∨ m = 2 ∨ m = 3 := by omega
            rcases hm with rfl | rfl | rfl | rfl
            · simp at hx
            · simp at hx; exact ⟨0, by omega, by omega⟩
            · simp at hx; rcases hx with rfl | rfl
              · exact ⟨0, rfl, by omega⟩
              · exact ⟨1, rfl, by omega⟩
            · simp at hx; rcases hx with rfl | rfl | rfl
              · exact ⟨0, rfl, by omega⟩
              · exact ⟨1, rfl, by omega⟩
              · exact ⟨2, rfl, by omega⟩
          obtain ⟨j, rfl, hj⟩ := this
          exact ⟨.at e j (by simpa using he) hj, _, rfl⟩
        · have e2 : (w == wAt) = false := by rw [beq_eq_false_iff_ne]; exact hw2
          rw [e2, cond_false, Bool.and_eq_true, Bool.and_eq_true, Bool.or_eq_true, beq_iff_eq, beq_iff_eq] at h
          obtain ⟨h1, h2, h3⟩ := h
          obtain ⟨s, rfl, hs⟩ := inB_of h2
          obtain ⟨i, rfl, h4, h5⟩ := numB_of h3
          exact ⟨.num w s i (by rcases h1 with rfl | rfl <;> simp) (by simpa using hs) h4 h5, _, rfl⟩
      | [], h =>
        have h : (bif w == wAhead then true else false) = true := h
        rw [e1] at h; exact absurd h (by simp)
      | [a], h =>
        have h : (bif w == wAhead then false else false) = true := h
        rw [e1] at h; exact absurd h (by simp)
      | a :: b :: c :: r, h =>
        have h : (bif w == wAhead then false else false) = true := h
        rw [e1] at h; exact absurd h (by simp)
theorem testB_of {m : Nat} (hm : m ≤ 3) {t : T} (h : testB m t = true) : Test m 9 t := by
  match t, h with
  | .tup [.bl b, f], h =>
    obtain ⟨h1, l, rfl⟩ := factB_of hm (show factB m f = true from h)
    exact ⟨b, l, rfl, h1⟩
theorem testsB_of {m : Nat} (hm : m ≤ 3) {t : T} (h : testsB m t = true) : ∃ l, t = .tup l ∧ l.length ≤ 3 ∧ ∀ x ∈ l, Test m 9 x := by
  cases t with
  | tup l =>
    have h : (decide (l.length ≤ 3) && l.all (testB m)) = true := h
    rw [Bool.and_eq_true, decide_eq_true_eq, List.all_eq_true] at h
    exact ⟨l, rfl, h.1, fun x hx => testB_of hm (h.2 x hx)⟩
  | _ => exact absurd h (by simp [testsB])
theorem bodyF_of {f : T → Bool} {t : T} (h : bodyF f t = true) : ∃ l, t = .tup l ∧ l.length ≤ 8 ∧ ∀ x ∈ l, f x = true := by
  cases t with
  | tup l =>
    have h : (decide (l.length ≤ 8) && l.all f) = true := h
    rw [Bool.and_eq_true, decide_eq_true_eq, List.all_eq_true] at h
    exact ⟨l, rfl, h.1, h.2⟩
  | _ => exact absurd h (by simp [bodyF])
theorem stmtB_of {m : Nat} (hm : m ≤ 3) : ∀ (d : Nat) (t : T), stmtB m d t = true → Stm allN m 9 d t := by
  intro d
  induction d with
  | zero => intro t h; exact absurd h (by simp [stmtB])
  | succ d ih =>
    intro t h
    match t, h with
    | .tup (.str w :: r), h =>
      rcases bcase (plainW w) with hp | hp
      · rw [stmtB_plain m d w r hp, List.isEmpty_iff] at h
        subst h
        refine .plain d w ?_
        unfold plainW at hp
        simp only [Bool.or_eq_true, beq_iff_eq] at hp
        rcases hp with rfl | rfl | rfl | rfl | rfl <;> simp
      rcases bcase (sMost == w || sLeast == w) with hn | hn
      · rw [stmtB_note m d w r hp hn] at h
        match r, h with
        | [a], h =>
          obtain ⟨s, rfl, hs⟩ := inB_of h
          rw [Bool.or_eq_true, beq_iff_eq, beq_iff_eq] at hn
          exact .note d w s (by rcases hn with rfl | rfl <;> simp) (by rcases hn with rfl | rfl <;> simp [allN]) (by simpa using hs)
      by_cases h3 : w = wCount
      · subst h3
        rw [stmtB_count] at h
        match r, h with
        | [a], h =>
          obtain ⟨s, rfl, hs⟩ := inB_of h
          exact .count d s (by simp [allN]) (by simpa using hs)
      by_cases h4 : w = wWhile
      · subst h4
        rw [stmtB_while] at h
        match r, h with
        | [t, b], h =>
          have h : (testsB m t && bodyF (stmtB m d) b) = true := h
          rw [Bool.and_eq_true] at h
          obtain ⟨t, rfl, h1, h2⟩ := testsB_of hm h.1
          obtain ⟨b, rfl, h5, h6⟩ := bodyF_of h.2
          exact .whl d t b h2 h1 (fun x hx => ih x (h6 x hx)) h5
      by_cases h5 : w = wIf
      · subst h5
        rw [stmtB_if] at h
        match r, h with
        | [t, b, c], h =>
          have h : (testsB m t && (bodyF (stmtB m d) b && bodyF (stmtB m d) c)) = true := h
          rw [Bool.and_eq_true, Bool.and_eq_true] at h
          obtain ⟨t, rfl, h1, h2⟩ := testsB_of hm h.1
          obtain ⟨b, rfl, h7, h6⟩ := bodyF_of h.2.1
          obtain ⟨c, rfl, h8, h9⟩ := bodyF_of h.2.2
          exact .iff d t b c h2 h1 (fun x hx => ih x (h6 x hx)) h7 (fun x hx => ih x (h9 x hx)) h8
      rw [stmtB_no m d w r hp hn (by rw [beq_eq_false_iff_ne]; exact h3) (by rw [beq_eq_false_iff_ne]; exact h4) (by rw [beq_eq_false_iff_ne]; exact h5)] at h
      exact absurd h (by simp)
theorem Fact.ok {m : Nat} (hm : m ≤ 3) {B : Int} (hB : B ≤ 9) {t : T} (h : Fact m B t) : factB m t = true := by
  cases h with
  | ahead => rfl
  | num w s i hw hs h0 h1 =>
    have : numB 0 9 (.int i) = true := by show (decide (0 ≤ i) && decide (i ≤ 9)) = true; rw [decide_eq_true h0, decide_eq_true (by omega)]; rfl
    rcases hw with rfl | rfl <;> rcases hs with rfl | rfl <;> (show (true && (true && numB 0 9 (.int i))) = true; rw [this]; rfl)
  | «at» e c he hc =>
    have : inB (([97, 98, 99].take m).map fun c => [c]) (.str [97 + c]) = true := by
      have hm : (m = 1 ∧ c = 0) ∨ (m = 2 ∧ (c = 0 ∨ c = 1)) ∨ (m = 3 ∧ (c = 0 ∨ c = 1 ∨ c = 2)) := by omega
      rcases hm with ⟨rfl, rfl⟩ | ⟨rfl, rfl | rfl⟩ | ⟨rfl, rfl | rfl | rfl⟩ <;> rfl
    rcases he with rfl | rfl <;> (show (true && inB (([97, 98, 99].take m).map fun c => [c]) (.str [97 + c])) = true; rw [this]; rfl)
theorem Tests.ok {m : Nat} (hm : m ≤ 3) {B : Int} (hB : B ≤ 9) {l : List T} (h : ∀ x ∈ l, Test m B x) (hl : l.length ≤ 3) : testsB m (.tup l) = true := by
  show (decide (l.length ≤ 3) && l.all (testB m)) = true
  rw [decide_eq_true hl, Bool.true_and, List.all_eq_true]
  intro x hx
  obtain ⟨b, f, rfl, hf⟩ := h x hx
  exact hf.ok hm hB
theorem bodyF_ok {f : T → Bool} {l : List T} (h : ∀ x ∈ l, f x = true) (hl : l.length ≤ 8) : bodyF f (.tup l) = true := by
  show (decide (l.length ≤ 8) && l.all f) = true
  rw [decide_eq_true hl, Bool.true_and, List.all_eq_true]
  exact h
theorem Stm.ok {N : List (List Nat)} {m : Nat} (hm : m ≤ 3) {B : Int} (hB : B ≤ 9) {d : Nat} {t : T} (h : Stm N m B d t) : stmtB m d t = true := by
  induction h with
  | plain d w hw => rcases hw with rfl | rfl | rfl | rfl | rfl <;> rfl
  | note d w a hw _ ha => rcases hw with rfl | rfl <;> rcases ha with rfl | rfl <;> rfl
  | count d a _ ha => rcases ha with rfl | rfl <;> rfl
  | whl d t b ht hl hb hl2 ih =>
    rw [stmtB_while]
    show (testsB m (.tup t) && bodyF (stmtB m d) (.tup b)) = true
    rw [Tests.ok hm hB ht hl, bodyF_ok ih hl2]; rfl
  | iff d t b c ht hl hb hl2 hc hl3 ih ih2 =>
    rw [stmtB_if]
    show (testsB m (.tup t) && (bodyF (stmtB m d) (.tup b) && bodyF (stmtB m d) (.tup c))) = true
    rw [Tests.ok hm hB ht hl, bodyF_ok ih hl2, bodyF_ok ih2 hl3]; rfl
/-! ### all statements -/
def sbd : Nat → Nat
  | 0 => 0
  | d + 1 => 1 + 16 * sbd d
theorem szL_bd {N : List (List Nat)} {m : Nat} {B : Int} {d : Nat} (h : ∀ s, Stm N m B d s → (lsS s).length ≤ sbd d) : ∀ l : List T, (∀ x ∈ l, Stm N m B d x) → szL l ≤ l.length * sbd d
  | [], _ => by rw [szL_nil]; omega
  | s :: l, hl => by
    have := szL_bd h l fun x hx => hl x (List.mem_cons_of_mem _ hx)
    have h1 := h s (hl s List.mem_cons_self)
    rw [szL_cons, List.length_cons, Nat.add_mul, Nat.one_mul]
    omega
theorem lsS_bd {N : List (List Nat)} {m : Nat} {B : Int} : ∀ (d : Nat) (s : T), Stm N m B d s → (lsS s).length ≤ sbd d := by
  intro d
  induction d with
  | zero => intro s h; exact nomatch h
  | succ d ih =>
    intro s h
    show _ ≤ 1 + 16 * sbd d
    have mul8 : ∀ n, n ≤ 8 → n * sbd d ≤ 8 * sbd d := fun n hn => Nat.mul_le_mul_right _ hn
    cases h with
    | plain _ w hw => rw [lsS_plain]; simp
    | note _ w a _ _ _ => rw [lsS_note]; simp
    | count _ a _ _ => rw [lsS_note]; simp
    | whl _ t b ht hl hb hl2 =>
      rw [lsS_whl, List.length_cons]
      have h1 := szL_bd ih b hb
      have h2 := mul8 _ hl2
      unfold szL at h1
      omega
    | iff _ t b c ht hl hb hl2 hc hl3 =>
      rw [lsS_if, List.length_cons, List.length_append]
      have h1 := szL_bd ih b hb
      have h2 := mul8 _ hl2
      have h3 := szL_bd ih c hc
      have h4 := mul8 _ hl3
      unfold szL at h1 h3
      omega
theorem lsL_append : ∀ a b : List T, lsL (a ++ b) = lsL a ++ lsL b
  | [], b => rfl
  | s :: a, b => by rw [List.cons_append, lsL_cons, lsL_cons, lsL_append a b, List.append_assoc]
def subsT : T → List T
  | .tup (.str w :: _ :: r) => bif w == wWhile || w == wIf then r else []
  | _ => []
theorem t_bodies_of (n : Nat) {N : List (List Nat)} {m : Nat} {B : Int} {d : Nat} {s : T} (h : Stm N m B d s) : prog.tab (n + 1) 7 [s] = .ret (.lst true (subsT s)) [none] := by
  refine Pe_ret ?_
  rw [tabs _ 7 d_bodies_of _ rfl]
  cases h with
  | plain _ w hw => rcases hw with rfl | rfl | rfl | rfl | rfl <;> (simp! only [d_bodies_of, wAdd, wTake, wRight, wLeft, wStop]; exact ⟨rfl, rfl⟩)
  | note _ w a hw _ _ => rcases hw with rfl | rfl <;> (simp! only [d_bodies_of, sMost, sLeast]; exact ⟨rfl, rfl⟩)
  | count _ a _ _ => simp! only [d_bodies_of, wCount]; exact ⟨rfl, rfl⟩
  | whl _ t b ht hl hb hl2 => simp! only [d_bodies_of, wWhile]; exact ⟨rfl, rfl⟩
  | iff _ t b c ht hl hb hl2 hc hl3 => simp! only [d_bodies_of, wIf]; exact ⟨rfl, rfl⟩
theorem t_listed (N : List (List Nat)) (m : Nat) (B : Int) : ∀ (d n : Nat) (l : List T), d ≤ 4 → l.length ≤ 8 → (∀ x ∈ l, Stm N m B d x) → prog.tab (n + d + 2) 8 [.tup l] = .ret (.lst true (lsL l)) [none] := by
  intro d
  induction d with
  | zero =>
    intro n l _ _ h
    have hl : l = [] := by
      cases l with
      | nil => rfl
      | cons x l => exact nomatch h x List.mem_cons_self
    subst hl
    refine Pe_ret ?_
    rw [tabs _ 8 d_listed _ rfl]
    simp! only [d_listed]
    exact ⟨rfl, rfl⟩
  | succ d ih =>
    intro n l hd hl8 h
    refine Pe_ret ?_
    rw [show n + (d + 1) + 2 = (n + d + 2) + 1 by omega, tabs _ 8 d_listed _ rfl]
    have hbd : szL l ≤ 8 * 4369 := by
      have h1 := szL_bd (lsS_bd (d + 1)) l h
      have h2 : sbd (d + 1) ≤ 4369 := by
        have : d = 0 ∨ d = 1 ∨ d = 2 ∨ d = 3 := by omega
        rcases this with rfl | rfl | rfl | rfl <;> decide
      have h3 := Nat.mul_le_mul hl8 h2
      omega
    simp! only [d_listed]
    refine forL_p (fun r e => ∃ (a : List T) (y2 y3 : Option T), a ++ r = l ∧ e = [some (.tup l), some (.lst true (lsL a)), y2, y3]) l _ ⟨[], none, none, rfl, rfl⟩ ?_ ?_
    · rintro x r e ⟨a, y2, y3, hl, rfl⟩
      have hx := h x (by rw [← hl]; simp)
      have hall : lsL l = lsL a ++ (lsS x ++ lsL r) := by rw [← hl, lsL_append, lsL_cons]
      have hlen : (lsL a).length + ((lsS x).length + (lsL r).length) ≤ 34952 := by
        have : (lsL l).length ≤ 34952 := hbd
        rw [hall, List.length_append, List.length_append] at this
        exact this
      have hox : Vi.own x = false := by cases hx <;> rfl
      have hfx : fz x = x := by cases hx <;> rfl
      have tb := t_bodies_of (n + d + 1) hx
      have hstep : ∀ y3 : Option T, ∃ (a' : List T) (y2 y3' : Option T), a' ++ r = l ∧ [some (.tup l), some (.lst true (lsL a ++ lsS x)), some x, y3] = [some (.tup l), some (.lst true (lsL a')), y2, y3'] := fun y3 =>
        ⟨a ++ [x], _, _, by rw [List.append_assoc]; exact hl, by rw [lsL_append, lsL_cons, show lsL [] = [] from rfl, List.append_nil]⟩
      have n1 : decide ((lsL a).length + 1 ≤ line) = true := decide_eq_true (by show _ ≤ 16777216; omega)
      cases hx with
      | plain _ w hw =>
        have e : subsT (T.tup [.str w]) = ([] : List T) := rfl
        rw [e] at tb
        rw [lsS_plain] at hstep
        simp! only [n1, hox, hfx, tb]
        exact hstep _
      | note _ w b hw _ _ =>
        have e : subsT (T.tup [.str w, .str b]) = ([] : List T) := by
          show (bif w == wWhile || w == wIf then ([] : List T) else []) = []
          cases (w == wWhile || w == wIf) <;> rfl
        rw [e] at tb
        rw [lsS_note] at hstep
        simp! only [n1, hox, hfx, tb]
        exact hstep _
      | count _ b _ _ =>
        have e : subsT (T.tup [.str wCount, .str b]) = ([] : List T) := rfl
        rw [e] at tb
        rw [lsS_note] at hstep
        simp! only [n1, hox, hfx, tb]
        exact hstep _
      | whl _ t b ht hl3 hb hl2 =>
        have e : subsT (T.tup [.str wWhile, .tup t, .tup b]) = [.tup b] := rfl
        rw [e] at tb
        rw [lsS_whl] at hstep hlen
        rw [List.length_cons] at hlen
        have i1 := ih n b (by omega) hl2 hb
        have n2 : decide ((lsL a ++ [T.tup [.str wWhile, .tup t, .tup b]]).length + (lsL b).length ≤ line) = true := decide_eq_true (by show _ ≤ 16777216; simp; omega)
        simp! only [n1, hox, hfx, tb, i1, n2]
        rw [List.append_assoc]
        exact hstep _
      | iff _ t b c ht hl3 hb hl2 hc hl4 =>
        have e : subsT (T.tup [.str wIf, .tup t, .tup b, .tup c]) = [.tup b, .tup c] := rfl
        rw [e] at tb
        rw [lsS_if] at hstep hlen
        rw [List.length_cons, List.length_append] at hlen
        have i1 := ih n b (by omega) hl2 hb
        have i2 := ih n c (by omega) hl4 hc
        have n2 : decide ((lsL a ++ [T.tup [.str wIf, .tup t, .tup b, .tup c]]).length + (lsL b).length ≤ line) = true := decide_eq_true (by show _ ≤ 16777216; simp; omega)
        have n3 : decide ((lsL a ++ [T.tup [.str wIf, .tup t, .tup b, .tup c]] ++ lsL b).length + (lsL c).length ≤ line) = true := decide_eq_true (by show _ ≤ 16777216; simp; omega)
        simp! only [n1, hox, hfx, tb, i1, i2, n2, n3]
        rw [List.append_assoc, List.append_assoc]
        exact hstep _
    · rintro e ⟨a, y2, y3, hl, rfl⟩
      rw [List.append_nil] at hl
      subst hl
      simp! only []
      exact ⟨rfl, rfl⟩
end ViLaw

set_option maxRecDepth 100000
set_option maxHeartbeats 2000000
set_option linter.all false
set_option autoImplicit false
namespace ViLaw
open Vi
/-! ### words, loops -/
theorem mem_ls {N : List (List Nat)} {m : Nat} {B : Int} : ∀ (d : Nat), (∀ s, Stm N m B d s → ∀ x ∈ lsS s, ∃ k, k ≤ d ∧ Stm N m B k x) ∧ (∀ l, (∀ s ∈ l, Stm N m B d s) → ∀ x ∈ lsL l, ∃ k, k ≤ d ∧ Stm N m B k x) := by
  intro d
  induction d with
  | zero =>
    refine ⟨(fun s h => nomatch h), ?_⟩
    intro l h x hx
    cases l with
    | nil => simp [lsL] at hx
    | cons s l => exact nomatch h s List.mem_cons_self
  | succ d ih =>
    have S : ∀ s, Stm N m B (d + 1) s → ∀ x ∈ lsS s, ∃ k, k ≤ d + 1 ∧ Stm N m B k x := by
      intro s hs x hx
      have sub : ∀ b : List T, (∀ y ∈ b, Stm N m B d y) → x ∈ lsL b → ∃ k, k ≤ d + 1 ∧ Stm N m B k x := fun b hb hx => by
        obtain ⟨k, h1, h2⟩ := ih.2 b hb x hx
        exact ⟨k, by omega, h2⟩
      cases hs with
      | plain _ w hw => rw [lsS_plain, List.mem_singleton] at hx; subst hx; exact ⟨d + 1, by omega, .plain d w hw⟩
      | note _ w a hw hN ha => rw [lsS_note, List.mem_singleton] at hx; subst hx; exact ⟨d + 1, by omega, .note d w a hw hN ha⟩
      | count _ a hN ha => rw [lsS_note, List.mem_singleton] at hx; subst hx; exact ⟨d + 1, by omega, .count d a hN ha⟩
      | whl _ t b ht hl hb hl2 =>
        rw [lsS_whl] at hx
        rcases List.mem_cons.mp hx with rfl | hx
        · exact ⟨d + 1, by omega, .whl d t b ht hl hb hl2⟩
        · exact sub b hb hx
      | iff _ t b c ht hl hb hl2 hc hl3 =>
        rw [lsS_if] at hx
        rcases List.mem_cons.mp hx with rfl | hx
        · exact ⟨d + 1, by omega, .iff d t b c ht hl hb hl2 hc hl3⟩
        · rcases List.mem_append.mp hx with hx | hx
          · exact sub b hb hx
          · exact sub c hc hx
    refine ⟨S, ?_⟩
    intro l
    induction l with
    | nil => intro _ x hx; simp [lsL] at hx
    | cons s l ihl =>
      intro h x hx
      rw [lsL_cons] at hx
      rcases List.mem_append.mp hx with hx | hx
      · exact S s (h s List.mem_cons_self) x hx
      · exact ihl (fun y hy => h y (List.mem_cons_of_mem _ hy)) x hx
/-- the words that stand first -/
def wdN (N : List (List Nat)) : List (List Nat) := [wAdd, wTake, wRight, wLeft, wStop, wWhile, wIf] ++ N
theorem Stm.head {N : List (List Nat)} {m : Nat} {B : Int} {d : Nat} {x : T} (h : Stm N m B d x) : ∃ w r, x = .tup (.str w :: r) ∧ w ∈ wdN N := by
  cases h with
  | plain d w h => exact ⟨w, [], rfl, by rcases h with rfl | rfl | rfl | rfl | rfl <;> simp [wdN]⟩
  | note d w a h hN ha => exact ⟨w, _, rfl, by simp [wdN, hN]⟩
  | count d a hN ha => exact ⟨wCount, _, rfl, by simp [wdN, hN]⟩
  | whl d t b _ _ _ _ => exact ⟨wWhile, _, rfl, by simp [wdN]⟩
  | iff d t b c _ _ _ _ _ _ => exact ⟨wIf, _, rfl, by simp [wdN]⟩
def wordsL (l : List T) : List T := (lsL l).map ViLaw.hd
def hasW (w : List Nat) (l : List T) : Bool := (wordsL l).any fun y => eqb y (.str w)
theorem words_str {N : List (List Nat)} {m : Nat} {B : Int} {d : Nat} {l : List T} (h : ∀ x ∈ l, Stm N m B d x) : ∀ y ∈ wordsL l, ∃ w, y = .str w ∧ w ∈ wdN N := by
  intro y hy
  obtain ⟨x, hx, rfl⟩ := List.mem_map.mp hy
  obtain ⟨k, _, hs⟩ := (mem_ls d).2 l h x hx
  obtain ⟨w, r, rfl, hw⟩ := hs.head
  exact ⟨w, rfl, hw⟩
theorem words_dat {N : List (List Nat)} {m : Nat} {B : Int} {d : Nat} {l : List T} (h : ∀ x ∈ l, Stm N m B d x) (k : Nat) : dats k (wordsL l) = true := dats_of fun y hy => by
  obtain ⟨w, rfl, _⟩ := words_str h y hy
  exact dat_s k w
theorem lsL_len {N : List (List Nat)} {m : Nat} {B : Int} {d : Nat} {l : List T} (hd : d ≤ 4) (hl : l.length ≤ 8) (h : ∀ x ∈ l, Stm N m B d x) : (lsL l).length ≤ 34952 := by
  have h1 := szL_bd (lsS_bd d) l h
  have h2 : sbd d ≤ 4369 := by
    have : d = 0 ∨ d = 1 ∨ d = 2 ∨ d = 3 ∨ d = 4 := by omega
    rcases this with rfl | rfl | rfl | rfl | rfl <;> decide
  have h3 := Nat.mul_le_mul hl h2
  unfold szL at h1
  omega
theorem t_words_in {N : List (List Nat)} {m : Nat} {B : Int} {d : Nat} (n : Nat) (l : List T) (hd : d ≤ 4) (hl : l.length ≤ 8) (h : ∀ x ∈ l, Stm N m B d x) : prog.tab (n + d + 3) 9 [.tup l] = .ret (.lst true (wordsL l)) [none] := by
  refine Pe_ret ?_
  rw [tabs _ 9 d_words_in _ rfl]
  have hb := lsL_len hd hl h
  simp! only [d_words_in, t_listed N m B d n l hd hl h]
  refine turns_m (fun e => ∃ y, e = [some (.tup l), y]) ViLaw.hd ⟨none, rfl⟩ (by show _ ≤ 16777216; omega) (fun x hx e he => ?_) (fun e he => ?_)
  · obtain ⟨y, rfl⟩ := he
    obtain ⟨k, _, hs⟩ := (mem_ls d).2 l h x hx
    obtain ⟨w, r, rfl, hw⟩ := hs.head
    simp! only []
    exact ⟨rfl, _, rfl⟩
  · obtain ⟨y, rfl⟩ := he
    exact ⟨rfl, rfl⟩
theorem t_counts {N : List (List Nat)} {m : Nat} {B : Int} {d : Nat} (n : Nat) (l : List T) (hd : d ≤ 4) (hl : l.length ≤ 8) (h : ∀ x ∈ l, Stm N m B d x) : prog.tab (n + d + 4) 10 [.tup l] = .ret (.bl (hasW wCount l)) [none] := by
  refine Pe_ret ?_
  rw [tabs _ 10 d_counts _ rfl]
  simp! only [d_counts, t_words_in n l hd hl h, words_dat h 60]
  exact ⟨rfl, rfl⟩
theorem t_is_begin (n : Nat) (v : T) (k : Nat) (h : dt k v = true) : prog.tab (n + 2) 11 [v] = .ret (.bl (beginB v)) [none] := by
  refine Pe_ret ?_
  rw [tabs _ 11 d_is_begin _ rfl]
  have tn : ∀ v k, dt k v = true → prog.tab (n + 1) 0 [v, .int (-1), .int 9] = .ret (.bl (numB (-1) 9 v)) [none, none, none] := fun v k h => t_is_number n v (-1) 9 k h
  cases v with
  | non => simp! only [d_is_begin]; exact ⟨rfl, rfl⟩
  | und => cases k <;> exact absurd h (by simp [dt])
  | dic _ _ => cases k <;> exact absurd h (by simp [dt])
  | lst o l =>
    obtain ⟨k, rfl, _, rfl⟩ := dt_lst h
    simp! only [d_is_begin, tn _ _ h]
    exact ⟨rfl, rfl⟩
  | _ =>
    simp! only [d_is_begin, tn _ _ h]
    exact ⟨rfl, rfl⟩
def isNon : T → Bool
  | .non => true
  | _ => false
def tupN : T → Nat
  | .tup l => l.length
  | _ => 0
def tupL : T → List T
  | .tup l => l
  | _ => []
def loopB : T → Bool
  | .tup [w, b, body] => (worthsB w && beginB b) && ((bodyF (stmtB (tupN w) 4) body && decide (szL (tupL body) ≤ 20)) && (!hasW wCount (tupL body) || (!isNon b && (!hasW sMost (tupL body) && !hasW sLeast (tupL body)))))
  | _ => false
theorem gl_MS : gl[2]? = some (.int 20) := rfl
theorem gl_MD : gl[3]? = some (.int 4) := rfl
theorem worths_of {v : T} (h : worthsB v = true) : ∃ W, v = tupI W ∧ WOk W := by
  cases v with
  | tup l =>
    have h : ((decide (1 ≤ l.length) && decide (l.length ≤ 3)) && l.all (numB 1 3)) = true := h
    rw [Bool.and_eq_true, Bool.and_eq_true, decide_eq_true_eq, decide_eq_true_eq, List.all_eq_true] at h
    obtain ⟨W, rfl, hW⟩ := ints_of l fun t ht => numB_of (h.2 t ht)
    rw [List.length_map] at h
    exact ⟨W, rfl, h.1.1, h.1.2, hW⟩
  | _ => exact absurd h (by simp [worthsB])
theorem isNf_false {k : Nat} {t : T} (h : dt k t = true) : isNf false t = some (.bl (!isNon t)) := by
  cases t with
  | und => cases k <;> exact absurd h (by simp [dt])
  | dic _ _ => cases k <;> exact absurd h (by simp [dt])
  | _ => rfl
theorem isNf_true {k : Nat} {t : T} (h : dt k t = true) : isNf true t = some (.bl (isNon t)) := by
  cases t with
  | und => cases k <;> exact absurd h (by simp [dt])
  | dic _ _ => cases k <;> exact absurd h (by simp [dt])
  | _ => rfl
theorem t_is_loop (n : Nat) (v : T) (k : Nat) (hk : k ≤ 60) (h : dt k v = true) : prog.tab (n + 13) 12 [v] = .ret (.bl (loopB v)) [none] := by
  refine Pe_ret ?_
  rw [tabs _ 12 d_is_loop _ rfl]
  cases v with
  | tup l =>
    obtain ⟨k, rfl, h'⟩ := dt_tup h
    replace h := h'
    match l, h with
    | [], _ => simp! only [d_is_loop]; exact ⟨rfl, rfl⟩
    | [a], _ => simp! only [d_is_loop]; exact ⟨rfl, rfl⟩
    | [a, b], _ => simp! only [d_is_loop]; exact ⟨rfl, rfl⟩
    | a :: b :: c :: f :: r, _ =>
      have l4 : ((((a :: b :: c :: f :: r).length : Nat) : Int) == 3) = false := by
        rw [beq_eq_false_iff_ne]; simp only [List.length_cons]; omega
      simp only [List.length_cons] at l4
      simp! only [d_is_loop, l4]; exact ⟨rfl, rfl⟩
    | [w, b, body], h =>
      rw [dts_c, dts_c, dts_c, dts_n, Bool.and_true, Bool.and_eq_true, Bool.and_eq_true] at h
      obtain ⟨hw, hb, hbody⟩ := h
      show Pc (Pe (.bl ((worthsB w && beginB b) && ((bodyF (stmtB (tupN w) 4) body && decide (szL (tupL body) ≤ 20)) && (!hasW wCount (tupL body) || (!isNon b && (!hasW sMost (tupL body) && !hasW sLeast (tupL body))))))) _) _
      have tw := t_is_worths (n + 10) w k hw
      have tb := t_is_begin (n + 10) b k hb
      rcases bcase (worthsB w) with q1 | q1
      · rw [q1] at tw ⊢
        rcases bcase (beginB b) with q2 | q2
        · rw [q2] at tb ⊢
          obtain ⟨W, rfl, hW⟩ := worths_of q1
          have hm := hW.2.1
          have tbd : prog.tab (n + 12) 6 [.int ((W.length : Nat) : Int), body, .int 4] = .ret (.bl (bodyF (stmtB W.length 4) body)) [none, none, none] := (t_stmt_body W.length hm 4).2 n body k (by omega) hbody
          have etn : tupN (tupI W) = W.length := by show (W.map T.int).length = _; rw [List.length_map]
          rw [etn]
          unfold tupI at tw hw ⊢
          rcases bcase (bodyF (stmtB W.length 4) body) with q3 | q3
          · rw [q3] at tbd ⊢
            obtain ⟨l, rfl, hl8, hall⟩ := bodyF_of q3
            have hst : ∀ x ∈ l, Stm allN W.length 9 4 x := fun x hx => stmtB_of hm 4 x (hall x hx)
            have tl : prog.tab (n + 12) 8 [.tup l] = .ret (.lst true (lsL l)) [none] := t_listed allN W.length 9 4 (n + 6) l (by omega) hl8 hst
            have twd : prog.tab (n + 12) 9 [.tup l] = .ret (.lst true (wordsL l)) [none] := t_words_in (d := 4) (n + 5) l (by omega) hl8 hst
            have e20 : (20 < ((lsL l).length : Int)) = ¬ (szL l ≤ 20) := by
              apply propext; unfold szL; omega
            show Pc (Pe (.bl ((true && true) && ((true && decide (szL l ≤ 20)) && (!hasW wCount l || (!isNon b && (!hasW sMost l && !hasW sLeast l)))))) _) _
            by_cases hs : szL l ≤ 20
            · have hs2 : decide (20 < ((lsL l).length : Int)) = false := decide_eq_false (by unfold szL at hs; omega)
              rw [decide_eq_true hs]
              rcases bcase (hasW wCount l) with q4 | q4
              · rw [q4]
                unfold hasW at q4 ⊢
                unfold wCount at q4
                unfold sMost sLeast
                rcases bcase (isNon b) with q5 | q5
                · rw [q5]
                  simp! only [d_is_loop, dt_own hw, dt_fz hw, dt_own hb, dt_fz hb, tw, tb, List.length_map, tbd, gl_MS, gl_MD, tl, hs2, twd, words_dat hst 60, q4, isNf_false hb, q5]
                  exact ⟨rfl, rfl⟩
                · rw [q5]
                  rcases bcase ((wordsL l).any fun y => eqb y (.str [109, 111, 115, 116])) with q6 | q6
                  · rw [q6]
                    simp! only [d_is_loop, dt_own hw, dt_fz hw, dt_own hb, dt_fz hb, tw, tb, List.length_map, tbd, gl_MS, gl_MD, tl, hs2, twd, words_dat hst 60, q4, isNf_false hb, q5, q6]
                    exact ⟨rfl, rfl⟩
                  · rw [q6]
                    simp! only [d_is_loop, dt_own hw, dt_fz hw, dt_own hb, dt_fz hb, tw, tb, List.length_map, tbd, gl_MS, gl_MD, tl, hs2, twd, words_dat hst 60, q4, isNf_false hb, q5, q6]
                    exact ⟨rfl, rfl⟩
              · rw [q4]
                unfold hasW wCount at q4
                simp! only [d_is_loop, dt_own hw, dt_fz hw, dt_own hb, dt_fz hb, tw, tb, List.length_map, tbd, gl_MS, gl_MD, tl, hs2, twd, words_dat hst 60, q4]
                exact ⟨rfl, rfl⟩
            · have hs2 : decide (20 < ((lsL l).length : Int)) = true := decide_eq_true (by unfold szL at hs; omega)
              rw [decide_eq_false hs]
              simp! only [d_is_loop, dt_own hw, dt_fz hw, dt_own hb, dt_fz hb, tw, tb, List.length_map, tbd, gl_MS, gl_MD, tl, hs2]
              exact ⟨rfl, rfl⟩
          · rw [q3] at tbd ⊢
            simp! only [d_is_loop, dt_own hw, dt_fz hw, dt_own hb, dt_fz hb, dt_own hbody, dt_fz hbody, tw, tb, List.length_map, tbd, gl_MD]
            exact ⟨rfl, rfl⟩
        · rw [q2] at tb ⊢
          simp! only [d_is_loop, dt_own hw, dt_fz hw, dt_own hb, dt_fz hb, tw, tb]
          exact ⟨rfl, rfl⟩
      · rw [q1] at tw ⊢
        simp! only [d_is_loop, dt_own hw, dt_fz hw, tw]
        exact ⟨rfl, rfl⟩
  | lst o l =>
    obtain ⟨k, rfl, _, rfl⟩ := dt_lst h
    simp! only [d_is_loop]
    exact ⟨rfl, rfl⟩
  | und => cases k <;> exact absurd h (by simp [dt])
  | dic _ _ => cases k <;> exact absurd h (by simp [dt])
  | _ =>
    simp! only [d_is_loop]
    exact ⟨rfl, rfl⟩
end ViLaw

set_option maxRecDepth 100000
set_option maxHeartbeats 2000000
set_option linter.all false
set_option autoImplicit false
namespace ViLaw
open Vi
/-! ### wishes -/
def signsL : List (T × T) := [(.str kLong, .tup [.str sMost, .str sJust]), (.str kShort, .tup [.str sLeast, .str sJust]), (.str kNum, .tup [.str sMost, .str sJust]), (.str kGreat, .tup [.str sSize]), (.str kSmall, .tup [.str sSize])]
theorem gl_SIGNS : gl[4]? = some (.dic false signsL) := rfl
theorem signs_ok : (signsL.all fun p => okK0 p.1) = true := by decide
theorem signs_keys : (signsL.map fun p => p.1) = [kLong, kShort, kNum, kGreat, kSmall].map T.str := rfl
theorem signs_kind (s : List Nat) : kindD signsL (.str s) = true := rfl
def signsOf (w : List Nat) : List (List Nat) := if w = kLong then [sMost, sJust] else if w = kShort then [sLeast, sJust] else if w = kNum then [sMost, sJust] else if w = kGreat ∨ w = kSmall then [sSize] else []
def wishB : T → Bool
  | .tup [.str w, s, num, no] => inB (signsOf w) s && (numB 1 5 num && (bif w == kNum then numB 0 0 no else (isNon no || ((kLong == w || kGreat == w) && numB (-1) 0 no))))
  | _ => false
theorem t_is_wish (n : Nat) (v : T) (k : Nat) (hk : k ≤ 60) (h : dt k v = true) : prog.tab (n + 2) 13 [v] = .ret (.bl (wishB v)) [none] := by
  refine Pe_ret ?_
  rw [tabs _ 13 d_is_wish _ rfl]
  cases v with
  | tup l =>
    obtain ⟨k, rfl, h'⟩ := dt_tup h
    replace h := h'
    match l, h with
    | [], _ => simp! only [d_is_wish]; exact ⟨rfl, rfl⟩
    | [a], _ => simp! only [d_is_wish]; exact ⟨by cases a <;> rfl, rfl⟩
    | [a, b], _ => simp! only [d_is_wish]; exact ⟨by cases a <;> rfl, rfl⟩
    | [a, b, c], _ => simp! only [d_is_wish]; exact ⟨by cases a <;> rfl, rfl⟩
    | a :: b :: c :: f :: g :: r, _ =>
      have l4 : ((((a :: b :: c :: f :: g :: r).length : Nat) : Int) == 4) = false := by
        rw [beq_eq_false_iff_ne]; simp only [List.length_cons]; omega
      simp only [List.length_cons] at l4
      simp! only [d_is_wish, l4]; exact ⟨by cases a <;> rfl, rfl⟩
    | [a, s, num, no], h =>
      rw [dts_c, dts_c, dts_c, dts_c, dts_n, Bool.and_true, Bool.and_eq_true, Bool.and_eq_true, Bool.and_eq_true] at h
      obtain ⟨ha, hs, hnum, hno⟩ := h
      have tk : prog.tab (n + 1) 1 [.lst false [.str kLong, .str kShort, .str kNum, .str kGreat, .str kSmall], a] = .ret (.bl (inB [kLong, kShort, kNum, kGreat, kSmall] a)) [none, none] := t_is_amongL n [kLong, kShort, kNum, kGreat, kSmall] a k ha
      rcases bcase (inB [kLong, kShort, kNum, kGreat, kSmall] a) with q1 | q1
      · rw [q1] at tk
        obtain ⟨w, rfl, hw⟩ := inB_of q1
        have tn := t_is_number n num 1 5 k hnum
        have t0 := t_is_number n no 0 0 k hno
        have t1 : prog.tab (n + 1) 0 [no, .int (-1), .int 0] = .ret (.bl (numB (-1) 0 no)) [none, none, none] := t_is_number n no (-1) 0 k hno
        have ts : ∀ ws, prog.tab (n + 1) 1 [.tup (ws.map .str), s] = .ret (.bl (inB ws s)) [none, none] := fun ws => t_is_among n ws s k hs
        show Pc (Pe (.bl (inB (signsOf w) s && (numB 1 5 num && (bif w == kNum then numB 0 0 no else (isNon no || ((kLong == w || kGreat == w) && numB (-1) 0 no)))))) _) _
        have ts2 : ∃ L, dget signsL (.str w) = some (.tup L) ∧ L = (signsOf w).map T.str := by
          simp only [List.mem_cons, List.not_mem_nil, or_false] at hw
          rcases hw with rfl | rfl | rfl | rfl | rfl <;> exact ⟨_, rfl, rfl⟩
        obtain ⟨L, hL, hL2⟩ := ts2
        have ts3 := ts (signsOf w)
        rw [← hL2] at ts3
        have qn : (w == kNum) = true ∨ (w == kNum) = false := bcase _
        rcases bcase (inB (signsOf w) s) with q2 | q2
        · rw [q2] at ts3 ⊢
          rcases bcase (numB 1 5 num) with q3 | q3
          · rw [q3] at tn ⊢
            rcases qn with qn | qn
            · rw [qn]
              unfold kNum at qn
              simp! only [d_is_wish, gl_SIGNS, signs_ok, signs_keys, signs_kind, tk, hL, ts3, dt_own hs, dt_fz hs, dt_own hnum, dt_fz hnum, dt_own hno, dt_fz hno, tn, qn, t0]
              exact ⟨rfl, rfl⟩
            · rw [qn]
              unfold kNum at qn
              rcases bcase (isNon no) with q4 | q4
              · rw [q4]
                simp! only [d_is_wish, gl_SIGNS, signs_ok, signs_keys, signs_kind, tk, hL, ts3, dt_own hs, dt_fz hs, dt_own hnum, dt_fz hnum, dt_own hno, dt_fz hno, tn, qn, isNf_true hno, q4]
                exact ⟨rfl, rfl⟩
              · rw [q4]
                rcases bcase (kLong == w || kGreat == w) with q5 | q5
                · rw [q5]
                  unfold kLong kGreat at q5
                  simp! only [d_is_wish, gl_SIGNS, signs_ok, signs_keys, signs_kind, tk, hL, ts3, dt_own hs, dt_fz hs, dt_own hnum, dt_fz hnum, dt_own hno, dt_fz hno, tn, qn, isNf_true hno, q4, q5, t1]
                  exact ⟨rfl, rfl⟩
                · rw [q5]
                  unfold kLong kGreat at q5
                  simp! only [d_is_wish, gl_SIGNS, signs_ok, signs_keys, signs_kind, tk, hL, ts3, dt_own hs, dt_fz hs, dt_own hnum, dt_fz hnum, dt_own hno, dt_fz hno, tn, qn, isNf_true hno, q4, q5]
                  exact ⟨rfl, rfl⟩
          · rw [q3] at tn ⊢
            simp! only [d_is_wish, gl_SIGNS, signs_ok, signs_keys, signs_kind, tk, hL, ts3, dt_own hs, dt_fz hs, dt_own hnum, dt_fz hnum, tn]
            exact ⟨rfl, rfl⟩
        · rw [q2] at ts3 ⊢
          simp! only [d_is_wish, gl_SIGNS, signs_ok, signs_keys, signs_kind, tk, hL, ts3, dt_own hs, dt_fz hs]
          exact ⟨rfl, rfl⟩
      · rw [q1] at tk
        have e : wishB (.tup [a, s, num, no]) = false := by
          cases a with
          | str w =>
            have hw : ∀ x, x ∈ [kLong, kShort, kNum, kGreat, kSmall] → x ≠ w := fun x hx e => by
              subst e
              have : inB [kLong, kShort, kNum, kGreat, kSmall] (.str x) = true := by
                show ([kLong, kShort, kNum, kGreat, kSmall].any fun w => w == x) = true
                rw [List.any_eq_true]; exact ⟨x, hx, by simp⟩
              rw [this] at q1; exact absurd q1 (by simp)
            have e2 : signsOf w = [] := by
              unfold signsOf
              rw [if_neg (fun h => hw kLong (by simp) h.symm), if_neg (fun h => hw kShort (by simp) h.symm), if_neg (fun h => hw kNum (by simp) h.symm), if_neg (fun h => h.elim (fun h => hw kGreat (by simp) h.symm) (fun h => hw kSmall (by simp) h.symm))]
            show (inB (signsOf w) s && _) = false
            rw [e2]
            cases s <;> rfl
          | _ => rfl
        rw [e]
        simp! only [d_is_wish, gl_SIGNS, signs_ok, signs_keys, dt_own ha, dt_fz ha, tk]
        exact ⟨rfl, rfl⟩
  | lst o l =>
    obtain ⟨k, rfl, _, rfl⟩ := dt_lst h
    simp! only [d_is_wish]
    exact ⟨rfl, rfl⟩
  | und => cases k <;> exact absurd h (by simp [dt])
  | dic _ _ => cases k <;> exact absurd h (by simp [dt])
  | _ =>
    simp! only [d_is_wish]
    exact ⟨rfl, rfl⟩
/-! ### loops that are drawn are loops -/
theorem dt_ints (k : Nat) : ∀ W : List Int, dts k (W.map T.int) = true
  | [] => dts_n k
  | w :: W => by rw [List.map_cons, dts_c, dt_ints k W]; cases k <;> rfl
theorem Fact.dt {m : Nat} {B : Int} {t : T} (h : Fact m B t) : ∀ k, 1 ≤ k → Vi.dt k t = true := by
  intro k hk
  obtain ⟨k, rfl⟩ : ∃ j, k = j + 1 := ⟨k - 1, by omega⟩
  cases h <;> cases k <;> rfl
theorem Test.dt {m : Nat} {B : Int} {t : T} (h : Test m B t) : ∀ k, 2 ≤ k → Vi.dt k t = true := by
  intro k hk
  obtain ⟨k, rfl⟩ : ∃ j, k = j + 1 := ⟨k - 1, by omega⟩
  obtain ⟨b, f, rfl, hf⟩ := h
  show dts k [.bl b, .tup f] = true
  rw [dts_c, dts_c, dts_n, hf.dt k (by omega)]; cases k <;> rfl
theorem Stm.dt {N : List (List Nat)} {m : Nat} {B : Int} {d : Nat} {t : T} (h : Stm N m B d t) : ∀ k, 2 * d + 4 ≤ k → Vi.dt k t = true := by
  induction h with
  | plain d w h => intro k hk; obtain ⟨k, rfl⟩ : ∃ j, k = j + 2 := ⟨k - 2, by omega⟩; rfl
  | note d w a h hn ha => intro k hk; obtain ⟨k, rfl⟩ : ∃ j, k = j + 2 := ⟨k - 2, by omega⟩; rfl
  | count d a hn ha => intro k hk; obtain ⟨k, rfl⟩ : ∃ j, k = j + 2 := ⟨k - 2, by omega⟩; rfl
  | whl d t b ht hl hb hl2 ih =>
    intro k hk
    obtain ⟨k, rfl⟩ : ∃ j, k = j + 2 := ⟨k - 2, by omega⟩
    have e1 : dts k t = true := dts_all fun x hx => (ht x hx).dt k (by omega)
    have e2 : dts k b = true := dts_all fun x hx => ih x hx k (by omega)
    show dts (k + 1) [.str wWhile, .tup t, .tup b] = true
    rw [dts_c, dts_c, dts_c, dts_n]
    show (true && (dts k t && (dts k b && true))) = true
    rw [e1, e2]; rfl
  | iff d t b c ht hl hb hl2 hc hl3 ih ih2 =>
    intro k hk
    obtain ⟨k, rfl⟩ : ∃ j, k = j + 2 := ⟨k - 2, by omega⟩
    have e1 : dts k t = true := dts_all fun x hx => (ht x hx).dt k (by omega)
    have e2 : dts k b = true := dts_all fun x hx => ih x hx k (by omega)
    have e3 : dts k c = true := dts_all fun x hx => ih2 x hx k (by omega)
    show dts (k + 1) [.str wIf, .tup t, .tup b, .tup c] = true
    rw [dts_c, dts_c, dts_c, dts_c, dts_n]
    show (true && (dts k t && (dts k b && (dts k c && true)))) = true
    rw [e1, e2, e3]; rfl
theorem LoopOk.dt {N : List (List Nat)} {W : List Int} {b : T} {body : List T} (h : LoopOk N W b body) : Vi.dt 14 (loopT W b body) = true := by
  show dts 13 [tupI W, b, .tup body] = true
  rw [dts_c, dts_c, dts_c, dts_n]
  have e1 : Vi.dt 13 (tupI W) = true := dt_ints 12 W
  have e2 : Vi.dt 13 b = true := by
    rcases h.n with ⟨_, i, rfl, _, _⟩ | ⟨_, rfl | ⟨i, rfl, _, _⟩⟩ <;> rfl
  have e3 : dts 12 body = true := dts_all fun x hx => (h.b.2 x hx).dt 12 (by omega)
  show (Vi.dt 13 (tupI W) && (Vi.dt 13 b && (dts 12 body && true))) = true
  rw [e1, e2, e3]; rfl
theorem hasW_no {N : List (List Nat)} {m : Nat} {B : Int} {d : Nat} {l : List T} (h : ∀ x ∈ l, Stm N m B d x) {w : List Nat} (hw : w ∉ wdN N) : hasW w l = false := by
  unfold hasW
  rw [List.any_eq_false]
  intro y hy
  obtain ⟨v, rfl, hv⟩ := words_str h y hy
  rw [eqb_ss, beq_iff_eq]
  rintro rfl
  exact hw hv
theorem worthsB_ok {W : List Int} (h : WOk W) : worthsB (tupI W) = true := by
  show ((decide (1 ≤ (W.map T.int).length) && decide ((W.map T.int).length ≤ 3)) && (W.map T.int).all (numB 1 3)) = true
  rw [List.length_map, decide_eq_true h.1, decide_eq_true h.2.1, Bool.true_and, Bool.true_and, List.all_eq_true]
  intro x hx
  obtain ⟨w, hw, rfl⟩ := List.mem_map.mp hx
  have := h.2.2 w hw
  show (decide (1 ≤ w) && decide (w ≤ 3)) = true
  rw [decide_eq_true this.1, decide_eq_true this.2]; rfl
theorem beginI {i : Int} (h0 : -1 ≤ i) (h1 : i ≤ 9) : beginB (.int i) = true := by
  show (decide (-1 ≤ i) && decide (i ≤ 9)) = true
  rw [decide_eq_true h0, decide_eq_true h1]; rfl
theorem LoopOk.ok {N : List (List Nat)} {W : List Int} {b : T} {body : List T} (h : LoopOk N W b body) : loopB (loopT W b body) = true := by
  show ((worthsB (tupI W) && beginB b) && ((bodyF (stmtB (tupN (tupI W)) 4) (.tup body) && decide (szL body ≤ 20)) && (!hasW wCount body || (!isNon b && (!hasW sMost body && !hasW sLeast body))))) = true
  have etn : tupN (tupI W) = W.length := by show (W.map T.int).length = _; rw [List.length_map]
  rw [worthsB_ok h.w, etn, bodyF_ok (fun x hx => (h.b.2 x hx).ok h.w.2.1 (by omega)) h.b.1, decide_eq_true h.s]
  rcases h.n with ⟨hN, i, rfl, h0, h1⟩ | ⟨hN, hb⟩
  · have e1 : hasW sMost body = false := hasW_no h.b.2 (by rw [hN]; decide)
    have e2 : hasW sLeast body = false := hasW_no h.b.2 (by rw [hN]; decide)
    rw [e1, e2, beginI h0 h1]
    cases hasW wCount body <;> rfl
  · have e1 : hasW wCount body = false := hasW_no h.b.2 (by rw [hN]; decide)
    rw [e1]
    rcases hb with rfl | ⟨i, rfl, h0, h1⟩
    · rfl
    · rw [beginI h0 h1]; rfl
theorem t_need_loop (n : Nat) {N : List (List Nat)} {W : List Int} {b : T} {body : List T} (h : LoopOk N W b body) : prog.tab (n + 14) 14 [loopT W b body] = .ret .non [none] := by
  refine Pe_ret ?_
  rw [tabs _ 14 d_need_loop _ rfl]
  have t := t_is_loop n (loopT W b body) 14 (by omega) h.dt
  rw [h.ok] at t
  unfold loopT at t ⊢
  simp! only [d_need_loop, t]
  exact ⟨rfl, rfl⟩
end ViLaw

set_option maxRecDepth 100000
set_option maxHeartbeats 2000000
set_option linter.all false
set_option autoImplicit false
namespace ViLaw
open Vi
/-! ### the source of draws -/
theorem pow18 : binT .pow (.int 10) (.int 18) = some (.int 1000000000000000000) := rfl
theorem mulii (i j : Int) (h : (in64 i || in64 j) = true) : binT .mul (.int i) (.int j) = some (.int (i * j)) := by
  show (if (in64 i || in64 j) = true then _ else _) = _
  rw [if_pos h]
theorem mul_a (i : Int) : binT .mul (.int i) (.int 7919) = some (.int (i * 7919)) := mulii _ _ (by rw [show in64 7919 = true by decide]; simp)
theorem mul_b (i : Int) : binT .mul (.int 104729) (.int i) = some (.int (104729 * i)) := mulii _ _ (by rw [show in64 104729 = true by decide]; simp)
def srcRest : Ss := match l_source.body with | .cons _ (.cons _ r) => r | _ => .nil
theorem p_source {n : Nat} {ns : List Int} {k : Int} {Q : T → Env → Prop} (hk : 0 ≤ k) (hl : ns.length ≤ 63) (K : ∀ p, Q (srcT p) [none, none]) : Pc Q (prog.tab (n + 1) 28 [.lst false (ns.map .int), .int k]) := by
  rw [tabs _ 28 l_source _ rfl]
  have rest : ∀ (c : Int) (F : Fl → Env → Prop), (∀ p e, F (.ret (srcT p)) e) → Pt F (exs ⟨gl, prog.tab n⟩ srcRest [some (.lst false (ns.map .int)), some (.int k), some (.int c)]) := by
    intro c F hF
    by_cases h : c < 1000000000000000000
    · simp! only [srcRest, l_source, pow18, decide_eq_true h, mul_a, mul_b]
      exact hF (0, _) _
    · simp! only [srcRest, l_source, pow18, decide_eq_false h]
      exact hF (c, _) _
  by_cases h : k < (ns.length : Int)
  · have hx : k.toNat < (ns.map T.int).length := by rw [List.length_map]; omega
    have h2 : (ns.map T.int)[k.toNat]? = some (.int (ns[k.toNat]'(by rw [List.length_map] at hx; exact hx))) := by
      rw [List.getElem?_eq_getElem hx, List.getElem_map]
    have ha : atx (ns.map T.int) k = _ := (atx_at (ns.map T.int) k hk (by rw [List.length_map]; exact h)).trans h2
    rw [show l_source = ⟨_, _, _, _, .cons _ (.cons _ srcRest)⟩ from rfl]
    simp! only [List.length_map, decide_eq_true h, ha]
    exact rest _ _ fun p e => K p
  · rw [show l_source = ⟨_, _, _, _, .cons _ (.cons _ srcRest)⟩ from rfl]
    simp! only [List.length_map, decide_eq_false h]
    exact rest _ _ fun p e => K p
end ViLaw

set_option maxRecDepth 100000
set_option maxHeartbeats 2000000
set_option linter.all false
set_option autoImplicit false
namespace ViLaw
open Vi
/-! ### loops as text -/
def wNot : List Nat := [110, 111, 116]
def wAlways : List Nat := [97, 108, 119, 97, 121, 115]
def wNone : List Nat := [110, 111, 110, 101]
def wWorths : List Nat := [119, 111, 114, 116, 104, 115]
def wBegin : List Nat := [98, 101, 103, 105, 110]
def wElse : List Nat := [101, 108, 115, 101]
def wEnd : List Nat := [101, 110, 100]
def wPlain : List Nat := [112, 108, 97, 105, 110]
def itemS : T → List Nat
  | .str s => s
  | .int i => digS i
  | _ => []
def factW : T → List (List Nat)
  | .tup l => l.map itemS
  | _ => []
def factS (f : T) : List Nat := joinS [32] (factW f)
def testS : T → List Nat
  | .tup [.bl b, f] => (bif b then [] else [110, 111, 116, 32]) ++ factS f
  | _ => []
def testsS (l : List T) : List Nat := bif l.isEmpty then wAlways else joinS [44, 32] (l.map testS)
mutual
def liS : T → List (List Nat)
  | .tup (.str w :: .tup t :: r) => (w ++ 32 :: testsS t) :: liR r
  | .tup (.str w :: r) => [joinS [32] (w :: r.map itemS)]
  | _ => []
def liR : List T → List (List Nat)
  | [] => [wEnd]
  | .tup b :: r => liL b ++ (bif r.isEmpty then [wEnd] else wElse :: liR r)
  | _ :: _ => []
def liL : List T → List (List Nat)
  | [] => []
  | s :: r => liS s ++ liL r
end
theorem liL_nil : liL [] = [] := by rw [liL]
theorem liL_cons (s : T) (r : List T) : liL (s :: r) = liS s ++ liL r := by rw [liL]
theorem liS_plain (w : List Nat) : liS (.tup [.str w]) = [w] := by
  rw [liS]
  · rfl
  · intro t r h; simp at h
theorem liS_note (w a : List Nat) : liS (.tup [.str w, .str a]) = [w ++ 32 :: a] := by
  rw [liS]
  · simp [joinS, itemS]
  · intro t r h; simp at h
theorem liS_whl (w : List Nat) (t b : List T) : liS (.tup [.str w, .tup t, .tup b]) = (w ++ 32 :: testsS t) :: (liL b ++ [wEnd]) := by
  rw [liS, liR]; rfl
theorem liS_if (w : List Nat) (t b c : List T) : liS (.tup [.str w, .tup t, .tup b, .tup c]) = (w ++ 32 :: testsS t) :: (liL b ++ wElse :: (liL c ++ [wEnd])) := by
  rw [liS, liR, liR]; rfl
/-! lists, item by item -/
def A2 {α β : Type} (P : α → β → Prop) : List α → List β → Prop
  | [], [] => True
  | a :: r, b :: q => P a b ∧ A2 P r q
  | _, _ => False
theorem A2.map {α β : Type} {P : α → β → Prop} {g : α → β} : ∀ {l : List α}, (∀ x ∈ l, P x (g x)) → A2 P l (l.map g)
  | [], _ => trivial
  | x :: l, h => ⟨h x List.mem_cons_self, A2.map fun y hy => h y (List.mem_cons_of_mem _ hy)⟩
theorem A2.app {α β : Type} {P : α → β → Prop} : ∀ {l l' : List α} {m m' : List β}, A2 P l m → A2 P l' m' → A2 P (l ++ l') (m ++ m')
  | [], l', [], m', _, h => h
  | [], _, _ :: _, _, h, _ => h.elim
  | _ :: _, _, [], _, h, _ => h.elim
  | a :: l, l', b :: m, m', h, h' => ⟨h.1, A2.app h.2 h'⟩
theorem A2.imp {α β : Type} {P P' : α → β → Prop} (w : ∀ a b, P a b → P' a b) : ∀ {l : List α} {m : List β}, A2 P l m → A2 P' l m
  | [], [], _ => trivial
  | [], _ :: _, h => h.elim
  | _ :: _, [], h => h.elim
  | a :: l, b :: m, h => ⟨w a b h.1, A2.imp w h.2⟩
theorem A2.len {α β : Type} {P : α → β → Prop} : ∀ {l : List α} {m : List β}, A2 P l m → l.length = m.length
  | [], [], _ => rfl
  | [], _ :: _, h => h.elim
  | _ :: _, [], h => h.elim
  | a :: l, b :: m, h => by rw [List.length_cons, List.length_cons, A2.len h.2]
theorem A2.lmap {α β γ : Type} {P : γ → β → Prop} {g : α → γ} : ∀ {l : List α} {m : List β}, A2 (fun a b => P (g a) b) l m → A2 P (l.map g) m
  | [], [], _ => trivial
  | [], _ :: _, h => h.elim
  | _ :: _, [], h => h.elim
  | a :: l, b :: m, h => ⟨h.1, A2.lmap h.2⟩
theorem A2.to {α β : Type} {P : α → β → Prop} {f : β → α} : ∀ {l : List β}, (∀ x ∈ l, P (f x) x) → A2 P (l.map f) l
  | [], _ => trivial
  | x :: l, h => ⟨h x List.mem_cons_self, A2.to fun y hy => h y (List.mem_cons_of_mem _ hy)⟩
def Tw (own : List Nat) (E : Env) (t : Option T) : Option T → Env → Prop := fun o e => o = t ∧ wipe e own = wipe E own
theorem turns_2 {own : List Nat} {body : T → M (Option T)} {Q : List T → Env → Prop} {l m : List T} {E : Env} (hl : l.length ≤ line)
    (hb : A2 (fun x t => Pt (Tw own E (some t)) (body x (wipe E own))) l m) (hq : ∀ e, (∀ E', E' = E → back E' e own = E) → Q m e) : Pt Q (turns own body l [] E) := by
  refine turns_p (fun r acc e => wipe e own = wipe E own ∧ ∃ m2, acc ++ m2 = m ∧ A2 (fun x t => Pt (Tw own E (some t)) (body x (wipe E own))) r m2) l [] E ⟨rfl, m, rfl, hb⟩ ?_ ?_ (by simpa using hl)
  · rintro x r acc e _ ⟨he, m2, hm, ha⟩
    cases m2 with
    | nil => exact ha.elim
    | cons t m2 =>
      rw [he]
      refine Pt_mono ha.1 fun o e h => ?_
      obtain ⟨rfl, h2⟩ := h
      exact ⟨h2, m2, by rw [List.append_assoc]; exact hm, ha.2⟩
  · rintro acc e ⟨he, m2, hm, ha⟩
    cases m2 with
    | cons _ _ => exact ha.elim
    | nil =>
      rw [List.append_nil] at hm
      subst hm
      exact hq e fun E' hE => by rw [hE]; exact back_of he
theorem strs_m : ∀ l : List (List Nat), strs? (l.map .str) = some l
  | [] => rfl
  | a :: l => by
    show (strs? (l.map T.str)).map (a :: ·) = _
    rw [strs_m l]; rfl
theorem sum_le {c : Nat} : ∀ {l : List (List Nat)}, (∀ x ∈ l, x.length ≤ c) → (l.map List.length).sum ≤ c * l.length
  | [], _ => by simp
  | a :: l, h => by
    have h1 := h a List.mem_cons_self
    have h2 := sum_le (l := l) fun x hx => h x (List.mem_cons_of_mem _ hx)
    simp only [List.map_cons, List.sum_cons, List.length_cons, Nat.mul_add, Nat.mul_one]
    omega
theorem joinS_le (sep : List Nat) : ∀ l : List (List Nat), (joinS sep l).length ≤ (l.map List.length).sum + l.length * sep.length
  | [] => by simp [joinS]
  | [a] => by simp [joinS]
  | a :: b :: r => by
    have := joinS_le sep (b :: r)
    simp only [joinS, List.length_append, List.map_cons, List.sum_cons, List.length_cons] at this ⊢
    rw [Nat.add_mul, Nat.one_mul]
    omega
theorem joinS_in (sep : List Nat) {ch : Nat} : ∀ {l : List (List Nat)}, ch ∈ joinS sep l → ch ∈ sep ∨ ∃ x ∈ l, ch ∈ x
  | [], h => by simp [joinS] at h
  | [a], h => .inr ⟨a, by simp, h⟩
  | a :: b :: r, h => by
    simp only [joinS, List.mem_append] at h
    rcases h with (h | h) | h
    · exact .inr ⟨a, by simp, h⟩
    · exact .inl h
    · rcases joinS_in sep h with h | ⟨x, hx, h⟩
      · exact .inl h
      · exact .inr ⟨x, List.mem_cons_of_mem _ hx, h⟩
/-- signs: no blank, no comma, no line's end; at most so many -/
def wordOk (k : Nat) (w : List Nat) : Prop := w.length ≤ k ∧ ∀ c ∈ w, 45 ≤ c ∧ c < 128
def itemOk (x : T) : Prop := (∃ s, x = .str s ∧ wordOk 5 s) ∨ ∃ i : Int, x = .int i ∧ -1 ≤ i ∧ i ≤ 9
theorem dig_ok {i : Int} (h0 : -1 ≤ i) (h1 : i ≤ 9) : wordOk 5 (digS i) := by
  unfold digS
  split
  · exact ⟨by simp, fun c hc => by simp at hc; omega⟩
  · exact ⟨by simp, fun c hc => by simp at hc; omega⟩
theorem itemOk.word {x : T} (h : itemOk x) : wordOk 5 (itemS x) := by
  rcases h with ⟨s, rfl, h⟩ | ⟨i, rfl, h0, h1⟩
  · exact h
  · exact dig_ok h0 h1
theorem fact_items {m : Nat} {B : Int} {f : T} (hB : B ≤ 9) (hm : m ≤ 3) (h : Fact m B f) : ∃ l, f = .tup l ∧ (∀ x ∈ l, itemOk x) ∧ l ≠ [] ∧ l.length ≤ 3 := by
  cases h with
  | ahead => exact ⟨_, rfl, fun x hx => by simp at hx; subst hx; exact .inl ⟨_, rfl, by decide, by decide⟩, by simp, by simp⟩
  | num w s i hw hs h0 h1 =>
    refine ⟨_, rfl, fun x hx => ?_, by simp, by simp⟩
    simp at hx
    rcases hx with rfl | rfl | rfl
    · rcases hw with rfl | rfl <;> exact .inl ⟨_, rfl, by decide, by decide⟩
    · rcases hs with rfl | rfl <;> exact .inl ⟨_, rfl, by decide, by decide⟩
    · exact .inr ⟨i, rfl, by omega, by omega⟩
  | «at» e c he hc =>
    refine ⟨_, rfl, fun x hx => ?_, by simp, by simp⟩
    simp at hx
    rcases hx with rfl | rfl | rfl
    · exact .inl ⟨_, rfl, by decide, by decide⟩
    · rcases he with rfl | rfl <;> exact .inl ⟨_, rfl, by decide, by decide⟩
    · exact .inl ⟨_, rfl, by simp, fun d hd => by simp at hd; omega⟩
theorem items_sum {l : List T} (h : ∀ x ∈ l, itemOk x) (hl : l.length ≤ 3) : ((l.map itemS).map List.length).sum + (l.map itemS).length * 1 ≤ 18 := by
  have h1 := sum_le (c := 5) (l := l.map itemS) fun x hx => by
    obtain ⟨y, hy, rfl⟩ := List.mem_map.mp hx
    exact (h y hy).word.1
  rw [List.length_map] at h1 ⊢
  omega
theorem fact_len {m : Nat} {B : Int} {f : T} (hB : B ≤ 9) (hm : m ≤ 3) (h : Fact m B f) : (factS f).length ≤ 18 := by
  obtain ⟨l, rfl, h1, _, h2⟩ := fact_items hB hm h
  exact Nat.le_trans (joinS_le [32] (l.map itemS)) (items_sum h1 h2)
theorem test_len {m : Nat} {B : Int} {f : T} (hB : B ≤ 9) (hm : m ≤ 3) (h : Test m B f) : (testS f).length ≤ 22 := by
  obtain ⟨b, f, rfl, hf⟩ := h
  have := fact_len hB hm hf
  show ((bif b then [] else [110, 111, 116, 32]) ++ factS (.tup f)).length ≤ 22
  rw [List.length_append]
  cases b <;> simp <;> omega
theorem tests_sum {m : Nat} {B : Int} {l : List T} (hB : B ≤ 9) (hm : m ≤ 3) (h : ∀ x ∈ l, Test m B x) (hl : l.length ≤ 3) : ((l.map testS).map List.length).sum + (l.map testS).length * 2 ≤ 72 := by
  have h1 := sum_le (c := 22) (l := l.map testS) fun x hx => by
    obtain ⟨y, hy, rfl⟩ := List.mem_map.mp hx
    exact test_len hB hm (h y hy)
  rw [List.length_map] at h1 ⊢
  omega
theorem tests_len {m : Nat} {B : Int} {l : List T} (hB : B ≤ 9) (hm : m ≤ 3) (h : ∀ x ∈ l, Test m B x) (hl : l.length ≤ 3) : (testsS l).length ≤ 72 := by
  unfold testsS
  cases l with
  | nil => decide
  | cons a l => exact Nat.le_trans (joinS_le [44, 32] ((a :: l).map testS)) (tests_sum hB hm h hl)
theorem mul0 : binT .mul (.str [110, 111, 116, 32]) (.int 0) = some (.str []) := rfl
theorem mul1 : binT .mul (.str [110, 111, 116, 32]) (.int 1) = some (.str [110, 111, 116, 32]) := rfl
theorem dline {a : Nat} (h : a ≤ 10000) : decide (a ≤ line) = true := by
  rw [decide_eq_true_eq]; show _ ≤ 16777216; omega
theorem b1_item {x : T} (h : itemOk x) : b1T .str x = some (.str (itemS x)) := by
  rcases h with ⟨s, rfl, h⟩ | ⟨i, rfl, h0, h1⟩
  · rfl
  · rw [str_i, decide_eq_true ⟨h0, h1⟩]; rfl
theorem t_fact_text (n : Nat) {m : Nat} {B : Int} (hB : B ≤ 9) (hm : m ≤ 3) (b : Bool) (f : T) (h : Fact m B f) : prog.tab (n + 1) 18 [.bl b, f] = .ret (.str (testS (.tup [.bl b, f]))) [none, none] := by
  obtain ⟨l, rfl, h1, h2, h3⟩ := fact_items hB hm h
  refine Pe_ret ?_
  rw [tabs n 18 d_fact_text _ rfl]
  have hs := items_sum h1 h3
  have hl : (joinS [32] (l.map itemS)).length ≤ 18 := Nat.le_trans (joinS_le [32] (l.map itemS)) hs
  have g : l.map (fun x => T.str (itemS x)) = (l.map itemS).map T.str := by simp
  have e1 : decide (((l.map itemS).map List.length).sum + (l.map itemS).length * 1 ≤ line) = true := dline (by omega)
  have e2 : decide (0 + (joinS [32] (l.map itemS)).length ≤ line) = true := dline (by omega)
  have e3 : decide (4 + (joinS [32] (l.map itemS)).length ≤ line) = true := dline (by omega)
  cases b
  all_goals
    simp! only [d_fact_text, mul0, mul1]
    refine turns_2 (m := (l.map itemS).map T.str) (by show l.length ≤ 16777216; omega) (by
      rw [← g]
      refine A2.map fun x hx => ?_
      have hi := h1 x hx
      simp! only [b1_item hi]
      exact ⟨rfl, rfl⟩) fun e he => ?_
    rw [he]
    rotate_left
    · rfl
    simp! only [strs_m, e1, e2, e3]
    exact ⟨rfl, rfl⟩
theorem t_tests_text (n : Nat) {m : Nat} {B : Int} (hB : B ≤ 9) (hm : m ≤ 3) (l : List T) (h : ∀ x ∈ l, Test m B x) (hl : l.length ≤ 3) : prog.tab (n + 2) 19 [.tup l] = .ret (.str (testsS l)) [none] := by
  refine Pe_ret ?_
  rw [tabs (n + 1) 19 d_tests_text _ rfl]
  have hd : dats 63 l = true := dats_of fun x hx => (h x hx).dat 63 (by omega)
  cases l with
  | nil =>
    simp! only [d_tests_text]
    exact ⟨rfl, rfl⟩
  | cons a l =>
    have hs := tests_sum hB hm h hl
    have g : (a :: l).map (fun x => T.str (testS x)) = ((a :: l).map testS).map T.str := by simp
    have e1 : decide ((((a :: l).map testS).map List.length).sum + ((a :: l).map testS).length * 2 ≤ line) = true := dline (by omega)
    generalize hk : a :: l = k at *
    have hne : eqbs k [] = false := by rw [← hk]; rfl
    simp! only [d_tests_text, hd, hne]
    refine turns_2 (m := (k.map testS).map T.str) (by show k.length ≤ 16777216; omega) (by
      rw [← g]
      refine A2.map fun x hx => ?_
      obtain ⟨b, f, rfl, hf⟩ := h x hx
      simp! only [t_fact_text n hB hm b _ hf]
      exact ⟨rfl, rfl⟩) fun e he => ?_
    rw [he]
    rotate_left
    · rfl
    simp! only [strs_m, e1]
    refine ⟨?_, rfl⟩
    rw [← hk]; rfl
end ViLaw

set_option maxRecDepth 100000
set_option maxHeartbeats 2000000
set_option linter.all false
set_option autoImplicit false
namespace ViLaw
open Vi
/-! ### the lines of a body, of a loop -/
theorem t_body_lines (N : List (List Nat)) {m : Nat} {B : Int} (hB : B ≤ 9) (hm : m ≤ 3) : ∀ (d n : Nat) (l : List T), (∀ x ∈ l, Stm N m B d x) → (liL l).length ≤ 1000 → prog.tab (n + d + 2) 20 [.tup l] = .ret (.lst true ((liL l).map .str)) [none] := by
  intro d
  induction d with
  | zero =>
    intro n l h _
    have hl : l = [] := by
      cases l with
      | nil => rfl
      | cons x l => exact nomatch h x List.mem_cons_self
    subst hl
    refine Pe_ret ?_
    rw [tabs _ 20 d_body_lines _ rfl]
    simp! only [d_body_lines]
    exact ⟨rfl, rfl⟩
  | succ d ih =>
    intro n l h hz
    refine Pe_ret ?_
    rw [tabs _ 20 d_body_lines _ rfl]
    simp! only [d_body_lines]
    refine forL_p (fun r e => ∃ (acc : List (List Nat)) (y : Option T), e = [some (.tup l), some (.lst true (acc.map .str)), y] ∧ acc ++ liL r = liL l ∧ ∀ x ∈ r, Stm N m B (d + 1) x) l _ ⟨[], none, rfl, rfl, h⟩ ?_ ?_
    · rintro x r e ⟨acc, y, rfl, hk, hr⟩
      have hx := hr x List.mem_cons_self
      have hr' : ∀ y ∈ r, Stm N m B (d + 1) y := fun y hy => hr y (List.mem_cons_of_mem _ hy)
      rw [liL_cons] at hk
      have hlen := congrArg List.length hk
      simp only [List.length_append] at hlen
      cases hx with
      | plain _ w hw =>
        rw [liS_plain] at hk
        have e1 : decide (acc.length + 1 ≤ line) = true := by rw [liS_plain, List.length_singleton] at hlen; exact dline (by omega)
        rcases hw with rfl | rfl | rfl | rfl | rfl
        all_goals
          simp! only [wAdd, wTake, wRight, wLeft, wStop, strs?, List.length_map, e1, List.map_nil, List.sum_nil, List.sum_cons]
          exact ⟨acc ++ [_], _, by rw [List.map_append]; rfl, by rw [List.append_assoc]; exact hk, hr'⟩
      | note _ w a hw _ ha =>
        rw [liS_note] at hk
        have e1 : decide (acc.length + 1 ≤ line) = true := by rw [liS_note, List.length_singleton] at hlen; exact dline (by omega)
        rcases hw with rfl | rfl <;> rcases ha with rfl | rfl
        all_goals
          simp! only [sMost, sLeast, sSize, wSum, strs?, List.length_map, e1, List.map_nil, List.sum_nil, List.sum_cons]
          exact ⟨acc ++ [_], _, by rw [List.map_append]; rfl, by rw [List.append_assoc]; exact hk, hr'⟩
      | count _ a _ ha =>
        rw [liS_note] at hk
        have e1 : decide (acc.length + 1 ≤ line) = true := by rw [liS_note, List.length_singleton] at hlen; exact dline (by omega)
        rcases ha with rfl | rfl
        all_goals
          simp! only [wCount, sSize, wOne, strs?, List.length_map, e1, List.map_nil, List.sum_nil, List.sum_cons]
          exact ⟨acc ++ [_], _, by rw [List.map_append]; rfl, by rw [List.append_assoc]; exact hk, hr'⟩
      | whl _ t b ht hl hb hl2 =>
        rw [liS_whl] at hk hlen
        simp only [List.length_cons, List.length_append, List.length_nil] at hlen
        have tl := tests_len hB hm ht hl
        have e0 : prog.tab (n + (d + 1) + 1) 19 [.tup t] = _ := t_tests_text (n + d) hB hm t ht hl
        have e1 : prog.tab (n + (d + 1) + 1) 20 [.tup b] = _ := ih n b hb (by omega)
        have f0 : decide (6 + (testsS t).length ≤ line) = true := dline (by omega)
        have f1 : decide (acc.length + 1 ≤ line) = true := dline (by omega)
        have f2 : decide (acc.length + 1 + (liL b).length ≤ line) = true := dline (by omega)
        have f3 : decide (acc.length + 1 + (liL b).length + 1 ≤ line) = true := dline (by omega)
        simp! only [wWhile, e0, e1, f0, f1, f2, f3, List.length_map, List.length_append]
        refine ⟨acc ++ ((wWhile ++ 32 :: testsS t) :: (liL b ++ [wEnd])), some (.tup [.str wWhile, .tup t, .tup b]), ?_, by rw [List.append_assoc]; exact hk, hr'⟩
        simp [wWhile, wEnd]
      | iff _ t b c ht hl hb hl2 hc hl3 =>
        rw [liS_if] at hk hlen
        simp only [List.length_cons, List.length_append, List.length_nil] at hlen
        have tl := tests_len hB hm ht hl
        have e0 : prog.tab (n + (d + 1) + 1) 19 [.tup t] = _ := t_tests_text (n + d) hB hm t ht hl
        have e1 : prog.tab (n + (d + 1) + 1) 20 [.tup b] = _ := ih n b hb (by omega)
        have e2 : prog.tab (n + (d + 1) + 1) 20 [.tup c] = _ := ih n c hc (by omega)
        have f0 : decide (3 + (testsS t).length ≤ line) = true := dline (by omega)
        have f1 : decide (acc.length + 1 ≤ line) = true := dline (by omega)
        have f2 : decide (acc.length + 1 + (liL b).length ≤ line) = true := dline (by omega)
        have f3 : decide (acc.length + 1 + (liL b).length + 1 ≤ line) = true := dline (by omega)
        have f4 : decide (acc.length + 1 + (liL b).length + 1 + (liL c).length ≤ line) = true := dline (by omega)
        have f5 : decide (acc.length + 1 + (liL b).length + 1 + (liL c).length + 1 ≤ line) = true := dline (by omega)
        simp! only [wIf, e0, e1, e2, f0, f1, f2, f3, f4, f5, List.length_map, List.length_append]
        refine ⟨acc ++ ((wIf ++ 32 :: testsS t) :: (liL b ++ wElse :: (liL c ++ [wEnd]))), some (.tup [.str wIf, .tup t, .tup b, .tup c]), ?_, by rw [List.append_assoc]; exact hk, hr'⟩
        simp [wIf, wEnd, wElse]
    · rintro e ⟨acc, y, rfl, hk, _⟩
      rw [liL_nil, List.append_nil] at hk
      subst hk
      simp! only []
      exact ⟨rfl, rfl⟩
/-! the lines: how many, how long, without a line's end -/
def lineOk (z : List Nat) : Prop := z.length ≤ 80 ∧ ∀ c ∈ z, 32 ≤ c ∧ c < 128
theorem fact_in {m : Nat} {B : Int} {f : T} (hB : B ≤ 9) (hm : m ≤ 3) (h : Fact m B f) : ∀ c ∈ factS f, c = 32 ∨ (45 ≤ c ∧ c < 128) := by
  obtain ⟨l, rfl, h1, _, h2⟩ := fact_items hB hm h
  intro c hc
  rcases joinS_in [32] hc with h | ⟨x, hx, h⟩
  · left; simpa using h
  · obtain ⟨y, hy, rfl⟩ := List.mem_map.mp hx
    exact .inr ((h1 y hy).word.2 c h)
theorem test_in_c {m : Nat} {B : Int} {f : T} (hB : B ≤ 9) (hm : m ≤ 3) (h : Test m B f) : ∀ c ∈ testS f, c = 32 ∨ (45 ≤ c ∧ c < 128) := by
  obtain ⟨b, f, rfl, hf⟩ := h
  intro c hc
  have hc : c ∈ (bif b then [] else [110, 111, 116, 32]) ++ factS (.tup f) := hc
  rcases List.mem_append.mp hc with h | h
  · cases b
    · simp at h; omega
    · simp at h
  · exact fact_in hB hm hf c h
theorem tests_in_c {m : Nat} {B : Int} {l : List T} (hB : B ≤ 9) (hm : m ≤ 3) (h : ∀ x ∈ l, Test m B x) : ∀ c ∈ testsS l, 32 ≤ c ∧ c < 128 := by
  intro c hc
  unfold testsS at hc
  cases l with
  | nil => revert hc; revert c; decide
  | cons a l =>
    rcases joinS_in [44, 32] hc with h2 | ⟨x, hx, h2⟩
    · simp at h2; omega
    · obtain ⟨y, hy, rfl⟩ := List.mem_map.mp hx
      rcases test_in_c hB hm (h y hy) c h2 with h | h <;> omega
theorem liL_ok {N : List (List Nat)} {m : Nat} {B : Int} (hB : B ≤ 9) (hm : m ≤ 3) : ∀ (d : Nat), (∀ s, Stm N m B d s → (liS s).length ≤ 3 * (lsS s).length ∧ ∀ z ∈ liS s, lineOk z) ∧ (∀ l, (∀ s ∈ l, Stm N m B d s) → (liL l).length ≤ 3 * szL l ∧ ∀ z ∈ liL l, lineOk z) := by
  intro d
  have B1 : ∀ w t, (w = wWhile ∨ w = wIf) → (∀ x ∈ t, Test m B x) → t.length ≤ 3 → lineOk (w ++ 32 :: testsS t) := by
    intro w t hw ht hl
    have := tests_len hB hm ht hl
    have h2 := tests_in_c hB hm ht
    have hw2 : w.length ≤ 5 ∧ ∀ c ∈ w, 32 ≤ c ∧ c < 128 := by rcases hw with rfl | rfl <;> decide
    refine ⟨by rw [List.length_append, List.length_cons]; omega, fun c hc => ?_⟩
    rcases List.mem_append.mp hc with h | h
    · exact hw2.2 c h
    · rcases List.mem_cons.mp h with rfl | h
      · omega
      · exact h2 c h
  have en : lineOk wEnd ∧ lineOk wElse := ⟨⟨by decide, by decide⟩, ⟨by decide, by decide⟩⟩
  induction d with
  | zero =>
    refine ⟨(fun s h => nomatch h), ?_⟩
    intro l h
    cases l with
    | nil => exact ⟨by rw [liL_nil]; simp, fun z hz => by rw [liL_nil] at hz; simp at hz⟩
    | cons s l => exact nomatch h s List.mem_cons_self
  | succ d ih =>
    have S : ∀ s, Stm N m B (d + 1) s → (liS s).length ≤ 3 * (lsS s).length ∧ ∀ z ∈ liS s, lineOk z := by
      intro s hs
      cases hs with
      | plain _ w hw =>
        rw [liS_plain, lsS_plain]
        exact ⟨by simp, fun z hz => by
          rw [List.mem_singleton] at hz; subst hz
          rcases hw with rfl | rfl | rfl | rfl | rfl <;> exact ⟨by decide, by decide⟩⟩
      | note _ w a hw hN ha =>
        rw [liS_note, lsS_note]
        exact ⟨by simp, fun z hz => by
          rw [List.mem_singleton] at hz; subst hz
          rcases hw with rfl | rfl <;> rcases ha with rfl | rfl <;> exact ⟨by decide, by decide⟩⟩
      | count _ a hN ha =>
        rw [liS_note, lsS_note]
        exact ⟨by simp, fun z hz => by
          rw [List.mem_singleton] at hz; subst hz
          rcases ha with rfl | rfl <;> exact ⟨by decide, by decide⟩⟩
      | whl _ t b ht hl hb hl2 =>
        obtain ⟨i1, i2⟩ := ih.2 b hb
        rw [liS_whl, lsS_whl]
        refine ⟨by unfold szL at i1; simp only [List.length_cons, List.length_append, List.length_nil]; omega, fun z hz => ?_⟩
        rcases List.mem_cons.mp hz with rfl | hz
        · exact B1 _ t (.inl rfl) ht hl
        · rcases List.mem_append.mp hz with hz | hz
          · exact i2 z hz
          · rw [List.mem_singleton] at hz; subst hz; exact en.1
      | iff _ t b c ht hl hb hl2 hc hl3 =>
        obtain ⟨i1, i2⟩ := ih.2 b hb
        obtain ⟨j1, j2⟩ := ih.2 c hc
        rw [liS_if, lsS_if]
        refine ⟨by unfold szL at i1 j1; simp only [List.length_cons, List.length_append, List.length_nil]; omega, fun z hz => ?_⟩
        rcases List.mem_cons.mp hz with rfl | hz
        · exact B1 _ t (.inr rfl) ht hl
        · rcases List.mem_append.mp hz with hz | hz
          · exact i2 z hz
          · rcases List.mem_cons.mp hz with rfl | hz
            · exact en.2
            · rcases List.mem_append.mp hz with hz | hz
              · exact j2 z hz
              · rw [List.mem_singleton] at hz; subst hz; exact en.1
    refine ⟨S, ?_⟩
    intro l
    induction l with
    | nil => intro _; exact ⟨by rw [liL_nil]; simp, fun z hz => by rw [liL_nil] at hz; simp at hz⟩
    | cons s l ihl =>
      intro h
      obtain ⟨a1, a2⟩ := S s (h s List.mem_cons_self)
      obtain ⟨b1, b2⟩ := ihl fun y hy => h y (List.mem_cons_of_mem _ hy)
      rw [liL_cons, szL_cons]
      refine ⟨by rw [List.length_append]; omega, fun z hz => ?_⟩
      rcases List.mem_append.mp hz with hz | hz
      · exact a2 z hz
      · exact b2 z hz
/-! the lines of a loop -/
def beginS : T → List Nat
  | .int i => digS i
  | _ => wNone
def linesT (W : List Int) (b : T) (body : List T) : List (List Nat) := (wWorths ++ 32 :: joinS [32] (W.map digS)) :: (wBegin ++ 32 :: beginS b) :: liL body
def textT (W : List Int) (b : T) (body : List T) : List Nat := joinS [10] (linesT W b body)
theorem LoopOk.hm {N : List (List Nat)} {W : List Int} {b : T} {body : List T} (h : LoopOk N W b body) : W.length ≤ 3 := h.w.2.1
theorem worths_sum {W : List Int} (hW : WOk W) : ((W.map digS).map List.length).sum + (W.map digS).length * 1 ≤ 18 := by
  have h1 := sum_le (c := 5) (l := W.map digS) fun x hx => by
    obtain ⟨i, hi, rfl⟩ := List.mem_map.mp hx
    have := hW.2.2 i hi
    exact (dig_ok (by omega) (by omega)).1
  have := hW.2.1
  rw [List.length_map] at h1 ⊢
  omega
theorem begin_len {N : List (List Nat)} {W : List Int} {b : T} {body : List T} (h : LoopOk N W b body) : wordOk 5 (beginS b) := by
  rcases h.n with ⟨_, i, rfl, h0, h1⟩ | ⟨_, rfl | ⟨i, rfl, h0, h1⟩⟩
  · exact dig_ok h0 h1
  · exact ⟨by decide, by decide⟩
  · exact dig_ok h0 h1
theorem linesT_ok {N : List (List Nat)} {W : List Int} {b : T} {body : List T} (h : LoopOk N W b body) : (linesT W b body).length ≤ 62 ∧ ∀ z ∈ linesT W b body, lineOk z := by
  obtain ⟨h1, h2⟩ := (liL_ok (B := 9) (Int.le_refl _) h.hm 4).2 body h.b.2
  have hs := h.s
  have h3 := Nat.le_trans (joinS_le [32] (W.map digS)) (worths_sum h.w)
  have h4 := begin_len h
  refine ⟨by unfold linesT; simp only [List.length_cons]; omega, fun z hz => ?_⟩
  unfold linesT at hz
  rcases List.mem_cons.mp hz with rfl | hz
  · refine ⟨by rw [List.length_append, List.length_cons]; show 6 + _ ≤ 80; omega, fun c hc => ?_⟩
    rcases List.mem_append.mp hc with hc | hc
    · exact (by decide : ∀ c ∈ wWorths, 32 ≤ c ∧ c < 128) c hc
    · rcases List.mem_cons.mp hc with rfl | hc
      · omega
      · rcases joinS_in [32] hc with h | ⟨x, hx, h⟩
        · simp at h; omega
        · obtain ⟨i, hi, rfl⟩ := List.mem_map.mp hx
          have := ‹LoopOk N W b body›.w.2.2 i hi
          have := (dig_ok (i := i) (by omega) (by omega)).2 c h
          omega
  · rcases List.mem_cons.mp hz with rfl | hz
    · refine ⟨by rw [List.length_append, List.length_cons]; show 5 + _ ≤ 80; have := h4.1; omega, fun c hc => ?_⟩
      rcases List.mem_append.mp hc with hc | hc
      · exact (by decide : ∀ c ∈ wBegin, 32 ≤ c ∧ c < 128) c hc
      · rcases List.mem_cons.mp hc with rfl | hc
        · omega
        · have := h4.2 c hc; omega
    · exact h2 z hz
theorem text_sum {N : List (List Nat)} {W : List Int} {b : T} {body : List T} (h : LoopOk N W b body) : ((linesT W b body).map List.length).sum + (linesT W b body).length * 1 ≤ 6000 := by
  obtain ⟨h1, h2⟩ := linesT_ok h
  have := sum_le (c := 80) fun z hz => (h2 z hz).1
  omega
theorem text_len {N : List (List Nat)} {W : List Int} {b : T} {body : List T} (h : LoopOk N W b body) : (textT W b body).length ≤ 6000 := Nat.le_trans (joinS_le [10] _) (text_sum h)
theorem begin_b1 {N : List (List Nat)} {W : List Int} {i : Int} {body : List T} (h : LoopOk N W (.int i) body) : b1T .str (.int i) = some (.str (digS i)) := by
  have h01 : -1 ≤ i ∧ i ≤ 9 := by
    rcases h.n with ⟨_, j, e, h0, h1⟩ | ⟨_, e | ⟨j, e, h0, h1⟩⟩
    · cases e; exact ⟨h0, h1⟩
    · cases e
    · cases e; exact ⟨h0, h1⟩
  rw [str_i, decide_eq_true h01]; rfl
theorem begin_cases {N : List (List Nat)} {W : List Int} {b : T} {body : List T} (h : LoopOk N W b body) : b = .non ∨ ∃ i : Int, b = .int i ∧ -1 ≤ i ∧ i ≤ 9 := by
  rcases h.n with ⟨_, i, rfl, h0, h1⟩ | ⟨_, rfl | ⟨i, rfl, h0, h1⟩⟩
  · exact .inr ⟨i, rfl, h0, h1⟩
  · exact .inl rfl
  · exact .inr ⟨i, rfl, h0, h1⟩
theorem worth_b1 {W : List Int} (hW : WOk W) (i : Int) (hi : i ∈ W) : b1T .str (.int i) = some (.str (digS i)) := by
  have := hW.2.2 i hi
  rw [str_i, decide_eq_true ⟨by omega, by omega⟩]; rfl
theorem t_lines_of (n : Nat) {N : List (List Nat)} {W : List Int} {b : T} {body : List T} (h : LoopOk N W b body) : prog.tab (n + 7) 21 [loopT W b body] = .ret (.lst true ((linesT W b body).map .str)) [none] := by
  refine Pe_ret ?_
  rw [tabs (n + 6) 21 d_lines_of _ rfl]
  have hs := worths_sum h.w
  have hl := Nat.le_trans (joinS_le [32] (W.map digS)) hs
  have h3 := (begin_len h).1
  have h4 := (linesT_ok h).1
  unfold linesT at h4
  simp only [List.length_cons] at h4
  have hw := h.w.2.1
  have g : W.map (fun x => T.str (digS x)) = (W.map digS).map T.str := by simp
  have e1 : decide (((W.map digS).map List.length).sum + W.length * 1 ≤ line) = true := dline (by rw [List.length_map] at hs; omega)
  have e2 : decide (7 + (joinS [32] (W.map digS)).length ≤ line) = true := dline (by omega)
  have e3 : prog.tab (n + 6) 20 [.tup body] = _ := t_body_lines N (Int.le_refl 9) h.hm 4 n body h.b.2 (by omega)
  have e4 : decide (2 + (liL body).length ≤ line) = true := dline (by omega)
  simp! only [d_lines_of, loopT, tupI]
  refine turns_2 (m := (W.map digS).map T.str) (by rw [List.length_map]; show W.length ≤ 16777216; omega) (by
    rw [← g]
    refine A2.lmap (g := T.int) (A2.map fun x hx => ?_)
    simp! only [worth_b1 h.w x hx]
    exact ⟨rfl, rfl⟩) fun e he => ?_
  rw [he]
  rotate_left
  · rfl
  rcases begin_cases h with rfl | ⟨i, rfl, h0, h1⟩
  · simp! only [strs_m, e1, e2, e3, e4, List.length_map]
    exact ⟨rfl, rfl⟩
  · have e5 : decide (6 + (digS i).length ≤ line) = true := dline (by have := (dig_ok h0 h1).1; omega)
    simp! only [strs_m, e1, e2, e3, e4, e5, begin_b1 h, List.length_map]
    exact ⟨rfl, rfl⟩
end ViLaw

set_option maxRecDepth 100000
set_option maxHeartbeats 2000000
set_option linter.all false
set_option autoImplicit false
namespace ViLaw
open Vi
/-! ### lines, read -/
theorem joinS_L (sep : List Nat) : ∀ l : List (List Nat), joinS sep l = TL.joinL sep l
  | [] => rfl
  | [a] => rfl
  | a :: b :: r => by
    show a ++ sep ++ joinS sep (b :: r) = a ++ (sep ++ TL.joinL sep (b :: r))
    rw [joinS_L sep (b :: r), List.append_assoc]
theorem spl_joinS {c : Nat} {sep : List Nat} {parts : List (List Nat)} (hne : parts ≠ []) (h : ∀ p ∈ parts, c ∉ p) : splS (c :: sep) 0 [] (joinS (c :: sep) parts) = parts := by
  rw [splS_eq, joinS_L]
  exact TL.spl_join hne h
theorem spl_head {c : Nat} {p z : List Nat} (h : c ∉ p) : splS [c] 0 [] (p ++ c :: z) = p :: splS [c] 0 [] z := by
  rw [splS_eq, splS_eq]
  exact (TL.spl_part1 (S := []) (rest := z) (acc := []) h).trans rfl
theorem spl_ne (p : List Nat) : ∀ (l : List Nat) (k : Nat) (acc : List Nat), splS p k acc l ≠ []
  | [], k, acc => by cases k <;> (intro h; cases h)
  | c :: r, 0, acc => by
    show (if ((c :: r).take p.length == p) = true then acc :: splS p (p.length - 1) [] r else splS p 0 (acc ++ [c]) r) ≠ []
    by_cases z : ((c :: r).take p.length == p) = true
    · rw [if_pos z]; intro h; cases h
    · rw [if_neg z]; exact spl_ne p r _ _
  | c :: r, k + 1, acc => spl_ne p r k acc
theorem splOk_of {s p : List Nat} (h1 : p ≠ []) (h2 : ∀ c ∈ p, c < 256) (h : s.length ≤ 10000) : splOk s p = true := by
  unfold splOk
  rw [decide_eq_true_eq]
  exact ⟨h1, by rw [List.all_eq_true]; intro c hc; exact decide_eq_true (h2 c hc), by show s.length + 2 ≤ 16777216; omega⟩
theorem sp32 {s : List Nat} (h : s.length ≤ 10000) : splOk s [32] = true := splOk_of (by simp) (by decide) h
theorem sp10 {s : List Nat} (h : s.length ≤ 10000) : splOk s [10] = true := splOk_of (by simp) (by decide) h
theorem sp44 {s : List Nat} (h : s.length ≤ 10000) : splOk s [44, 32] = true := splOk_of (by simp) (by decide) h
theorem digit_dig {i : Int} (h0 : 0 ≤ i) (h1 : i ≤ 9) : digit? (digS i) = some i.toNat := by
  have e : digS i = [48 + i.toNat] := by unfold digS; rw [if_neg (by omega)]
  rw [e]
  show (if 48 ≤ 48 + i.toNat ∧ 48 + i.toNat ≤ 57 then some (48 + i.toNat - 48) else none) = _
  rw [if_pos (by omega)]
  congr 1; omega
theorem nine {i : Int} (h0 : 0 ≤ i) (h1 : i ≤ 9) : i = 0 ∨ i = 1 ∨ i = 2 ∨ i = 3 ∨ i = 4 ∨ i = 5 ∨ i = 6 ∨ i = 7 ∨ i = 8 ∨ i = 9 := by omega
def testW : T → List (List Nat)
  | .tup [.bl b, f] => (bif b then [] else [wNot]) ++ factW f
  | _ => []
theorem fact_w {m : Nat} {B : Int} {f : T} (hB : B ≤ 9) (hm : m ≤ 3) (h : Fact m B f) : ∃ w r, factW f = w :: r ∧ (w == wNot) = false ∧ (∀ p ∈ w :: r, 32 ∉ p ∧ 44 ∉ p) ∧ ∃ x y z, factS f = x :: y :: z ∧ ¬ (x = 97 ∧ y = 108) := by
  obtain ⟨l, rfl, h1, h2, h3⟩ := fact_items hB hm h
  have hp : ∀ p ∈ l.map itemS, 32 ∉ p ∧ 44 ∉ p := fun p hp => by
    obtain ⟨y, hy, rfl⟩ := List.mem_map.mp hp
    have := (h1 y hy).word.2
    exact ⟨fun h => by have := this _ h; omega, fun h => by have := this _ h; omega⟩
  cases h with
  | ahead => exact ⟨_, _, rfl, by decide, hp, _, _, _, rfl, by decide⟩
  | num w s i hw hs h0 h1 =>
    rcases hw with rfl | rfl <;> rcases hs with rfl | rfl <;> exact ⟨_, _, rfl, by decide, hp, _, _, _, rfl, by decide⟩
  | «at» e c he hc => exact ⟨_, _, rfl, by decide, hp, _, _, _, rfl, by decide⟩
theorem test_spl {m : Nat} {B : Int} (hB : B ≤ 9) (hm : m ≤ 3) (b : Bool) {f : T} (h : Fact m B f) : splS [32] 0 [] (testS (.tup [.bl b, f])) = (bif b then [] else [wNot]) ++ factW f := by
  obtain ⟨w, r, e, _, hp, _⟩ := fact_w hB hm h
  have e2 : testS (.tup [.bl b, f]) = joinS [32] ((bif b then [] else [wNot]) ++ factW f) := by
    show (bif b then [] else [110, 111, 116, 32]) ++ joinS [32] (factW f) = _
    rw [e]
    cases b <;> rfl
  rw [e2]
  refine spl_joinS ?_ fun p hq => ?_
  · rw [e]; cases b <;> simp
  · rw [e] at hq
    rcases List.mem_append.mp hq with h | h
    · cases b
      · simp at h; subst h; decide
      · simp at h
    · exact (hp p h).1
theorem test_hd {m : Nat} {B : Int} {t : T} (hB : B ≤ 9) (hm : m ≤ 3) (h : Test m B t) : ∃ x y z, testS t = x :: y :: z ∧ ¬ (x = 97 ∧ y = 108) := by
  obtain ⟨b, f, rfl, hf⟩ := h
  obtain ⟨_, _, _, _, _, x, y, z, e, hn⟩ := fact_w hB hm hf
  cases b
  · exact ⟨_, _, _, rfl, by decide⟩
  · exact ⟨x, y, z, e, hn⟩
theorem tests_ne {m : Nat} {B : Int} {a : T} {l : List T} (hB : B ≤ 9) (hm : m ≤ 3) (h : Test m B a) : (testsS (a :: l) == wAlways) = false := by
  obtain ⟨x, y, z, e, hn⟩ := test_hd hB hm h
  rw [beq_eq_false_iff_ne]
  intro he
  have he : joinS [44, 32] (testS a :: l.map testS) = wAlways := he
  rw [e] at he
  cases l with
  | nil =>
    have he : x :: y :: z = [97, 108, 119, 97, 121, 115] := he
    simp at he
    exact hn ⟨he.1, he.2.1⟩
  | cons c l =>
    have he : x :: y :: (z ++ [44, 32] ++ joinS [44, 32] (testS c :: l.map testS)) = [97, 108, 119, 97, 121, 115] := he
    simp at he
    exact hn ⟨he.1, he.2.1⟩
end ViLaw

set_option maxRecDepth 100000
set_option maxHeartbeats 4000000
set_option linter.all false
set_option autoImplicit false
namespace ViLaw
open Vi
/-! ### the law's own writing -/
def rwS : Ss := match l_lines.body with | .cons _ (.cons (.for _ _ (.cons (.ifs _ _ (.cons _ (.cons (.for _ _ b) _))) _)) _) => b | _ => .nil
theorem u_rows (n : Nat) {m : Nat} {B : Int} (hB : B ≤ 9) (hm : m ≤ 3) (l : T) (acc : List T) (st : T) (k : List T) (ht : ∀ x ∈ k, Test m B x) (hk : k.length ≤ 3) (y4 y5 : Option T) (Q : Fl → Env → Prop)
    (hQ : ∀ y4 y5, Q .nx [some l, some (.lst true acc), some st, some (.lst true ((k.map testS).map .str)), y4, y5, none]) :
    Pt Q (forL (asg (.tp (.cons (.nm 4) (.cons (.nm 5) .nil)))) (exs ⟨gl, prog.tab n⟩ rwS) k [some l, some (.lst true acc), some st, some (.lst true []), y4, y5, none]) := by
  refine forL_p (fun r e => ∃ (a2 : List (List Nat)) (y4 y5 : Option T), e = [some l, some (.lst true acc), some st, some (.lst true (a2.map .str)), y4, y5, none] ∧ a2 ++ r.map testS = k.map testS ∧ ∀ x ∈ r, Test m B x) k _ ⟨[], _, _, rfl, rfl, ht⟩ ?_ ?_
  · rintro x r e ⟨a2, y4, y5, rfl, h1, h2⟩
    obtain ⟨b, f, rfl, hf⟩ := h2 x List.mem_cons_self
    obtain ⟨fl, hfl, g1, g2, g3⟩ := fact_items hB hm hf
    cases hfl
    have hs := items_sum g1 g3
    have hl : (joinS [32] (f.map itemS)).length ≤ 18 := Nat.le_trans (joinS_le [32] (f.map itemS)) hs
    have g : f.map (fun x => T.str (itemS x)) = (f.map itemS).map T.str := by simp
    have e1 : decide (((f.map itemS).map List.length).sum + f.length * 1 ≤ line) = true := dline (by rw [List.length_map] at hs; omega)
    have e2 : decide (0 + (joinS [32] (f.map itemS)).length ≤ line) = true := dline (by omega)
    have e3 : decide (4 + (joinS [32] (f.map itemS)).length ≤ line) = true := dline (by omega)
    have hlen := congrArg List.length h1
    rw [List.length_append, List.length_map, List.length_map] at hlen
    have e4 : decide (a2.length < line) = true := by rw [decide_eq_true_eq]; show a2.length < 16777216; omega
    cases b
    all_goals
      simp! only [rwS, l_lines, mul0, mul1]
      refine turns_2 (m := (f.map itemS).map T.str) (by show f.length ≤ 16777216; omega) (by
        rw [← g]
        refine A2.map fun x hx => ?_
        have hi := g1 x hx
        simp! only [b1_item hi]
        exact ⟨rfl, rfl⟩) fun e he => ?_
      rw [he]
      rotate_left
      · rfl
      simp! only [strs_m, e1, e2, e3, e4, List.length_map]
      first
      | exact ⟨a2 ++ [testS (.tup [.bl false, .tup f])], _, _, by rw [List.map_append]; rfl, by rw [List.append_assoc]; exact h1, fun y hy => h2 y (List.mem_cons_of_mem _ hy)⟩
      | exact ⟨a2 ++ [testS (.tup [.bl true, .tup f])], _, _, by rw [List.map_append]; rfl, by rw [List.append_assoc]; exact h1, fun y hy => h2 y (List.mem_cons_of_mem _ hy)⟩
  · rintro e ⟨a2, y4, y5, rfl, h1, _⟩
    rw [List.map_nil, List.append_nil] at h1
    subst h1
    exact hQ _ _
theorem u_lines (N : List (List Nat)) {m : Nat} {B : Int} (hB : B ≤ 9) (hm : m ≤ 3) : ∀ (d n : Nat) (l : List T), (∀ x ∈ l, Stm N m B d x) → (liL l).length ≤ 1000 → prog.tab (n + d + 1) 42 [.tup l] = .ret (.lst true ((liL l).map .str)) [none] := by
  intro d
  induction d with
  | zero =>
    intro n l h _
    have hl : l = [] := by
      cases l with
      | nil => rfl
      | cons x l => exact nomatch h x List.mem_cons_self
    subst hl
    refine Pe_ret ?_
    rw [tabs _ 42 l_lines _ rfl]
    simp! only [l_lines]
    exact ⟨rfl, rfl⟩
  | succ d ih =>
    intro n l h hz
    refine Pe_ret ?_
    rw [tabs _ 42 l_lines _ rfl]
    simp! only [l_lines]
    refine forL_p (fun r e => ∃ (acc : List (List Nat)) (y y3 y4 y5 : Option T), e = [some (.tup l), some (.lst true (acc.map .str)), y, y3, y4, y5, none] ∧ acc ++ liL r = liL l ∧ ∀ x ∈ r, Stm N m B (d + 1) x) l _ ⟨[], _, _, _, _, rfl, rfl, h⟩ ?_ ?_
    · rintro x r e ⟨acc, y, y3, y4, y5, rfl, hk, hr⟩
      have hx := hr x List.mem_cons_self
      have hr' : ∀ y ∈ r, Stm N m B (d + 1) y := fun y hy => hr y (List.mem_cons_of_mem _ hy)
      rw [liL_cons] at hk
      have hlen := congrArg List.length hk
      simp only [List.length_append] at hlen
      have lt : ∀ z, z ≤ 2000 → decide (z < line) = true := fun z hz => by rw [decide_eq_true_eq]; show z < 16777216; omega
      cases hx with
      | plain _ w hw =>
        rw [liS_plain] at hk
        have e1 : decide (acc.length < line) = true := lt _ (by omega)
        rcases hw with rfl | rfl | rfl | rfl | rfl
        all_goals
          simp! only [wAdd, wTake, wRight, wLeft, wStop, strs?, List.length_map, e1, List.map_nil, List.sum_nil, List.sum_cons]
          exact ⟨acc ++ [_], _, _, _, _, by rw [List.map_append]; rfl, by rw [List.append_assoc]; exact hk, hr'⟩
      | note _ w a hw _ ha =>
        rw [liS_note] at hk
        have e1 : decide (acc.length < line) = true := lt _ (by omega)
        rcases hw with rfl | rfl <;> rcases ha with rfl | rfl
        all_goals
          simp! only [sMost, sLeast, sSize, wSum, strs?, List.length_map, e1, List.map_nil, List.sum_nil, List.sum_cons]
          exact ⟨acc ++ [_], _, _, _, _, by rw [List.map_append]; rfl, by rw [List.append_assoc]; exact hk, hr'⟩
      | count _ a _ ha =>
        rw [liS_note] at hk
        have e1 : decide (acc.length < line) = true := lt _ (by omega)
        rcases ha with rfl | rfl
        all_goals
          simp! only [wCount, sSize, wOne, strs?, List.length_map, e1, List.map_nil, List.sum_nil, List.sum_cons]
          exact ⟨acc ++ [_], _, _, _, _, by rw [List.map_append]; rfl, by rw [List.append_assoc]; exact hk, hr'⟩
      | whl _ t b ht hl hb hl2 =>
        rw [liS_whl] at hk hlen
        simp only [List.length_cons, List.length_append, List.length_nil] at hlen
        have tl := tests_len hB hm ht hl
        have ts := tests_sum hB hm ht hl
        rw [List.length_map] at ts
        have e1 : prog.tab (n + (d + 1)) 42 [.tup b] = _ := ih n b hb (by omega)
        have f0 : decide (6 + (testsS t).length ≤ line) = true := dline (by omega)
        have f1 : decide (acc.length < line) = true := lt _ (by omega)
        have f2 : decide (acc.length + 1 + (liL b).length ≤ line) = true := dline (by omega)
        have f3 : decide (acc.length + 1 + (liL b).length < line) = true := lt _ (by omega)
        have fs : decide (((t.map testS).map List.length).sum + t.length * 2 ≤ line) = true := dline (by omega)
        have fin : ∀ y y3 y4 y5, ∃ (acc' : List (List Nat)) (z z3 z4 z5 : Option T), [some (.tup l), some (.lst true (acc.map .str ++ [.str (119 :: 104 :: 105 :: 108 :: 101 :: 32 :: testsS t)] ++ (liL b).map .str ++ [.str [101, 110, 100]])), y, y3, y4, y5, none] = [some (.tup l), some (.lst true (acc'.map .str)), z, z3, z4, z5, none] ∧ acc' ++ liL r = liL l ∧ ∀ x ∈ r, Stm N m B (d + 1) x := by
          intro y y3 y4 y5
          refine ⟨acc ++ ((wWhile ++ 32 :: testsS t) :: (liL b ++ [wEnd])), y, y3, y4, y5, ?_, by rw [List.append_assoc]; exact hk, hr'⟩
          simp [wWhile, wEnd]
        have ur := u_rows (n + (d + 1)) hB hm (.tup l) (acc.map .str) (.tup [.str wWhile, .tup t, .tup b]) t ht hl
        unfold wWhile at ur
        cases t with
        | nil =>
          have ta : testsS [] = [97, 108, 119, 97, 121, 115] := rfl
          rw [ta] at fin f0
          simp! only [wWhile, e1, f0, f1, f2, f3, List.length_map, List.length_append]
          exact fin _ _ _ _
        | cons a t =>
          have tj : joinS [44, 32] ((a :: t).map testS) = testsS (a :: t) := rfl
          have hne : eqbs (((a :: t).map testS).map T.str) [] = false := rfl
          have hds : dats 63 (((a :: t).map testS).map T.str) = true := dats_of fun x hx => by obtain ⟨i, _, rfl⟩ := List.mem_map.mp hx; rfl
          generalize a :: t = k at *
          simp! only [wWhile]
          refine ur _ _ _ fun y4 y5 => ?_
          simp! only [hds, hne, strs_m, fs, tj, e1, f0, f1, f2, f3, List.length_map, List.length_append]
          exact fin _ _ _ _
      | iff _ t b c ht hl hb hl2 hc hl3 =>
        rw [liS_if] at hk hlen
        simp only [List.length_cons, List.length_append, List.length_nil] at hlen
        have tl := tests_len hB hm ht hl
        have ts := tests_sum hB hm ht hl
        rw [List.length_map] at ts
        have e1 : prog.tab (n + (d + 1)) 42 [.tup b] = _ := ih n b hb (by omega)
        have e2 : prog.tab (n + (d + 1)) 42 [.tup c] = _ := ih n c hc (by omega)
        have f0 : decide (3 + (testsS t).length ≤ line) = true := dline (by omega)
        have f1 : decide (acc.length < line) = true := lt _ (by omega)
        have f2 : decide (acc.length + 1 + (liL b).length ≤ line) = true := dline (by omega)
        have f3 : decide (acc.length + 1 + (liL b).length + 1 ≤ line) = true := dline (by omega)
        have f4 : decide (acc.length + 1 + (liL b).length + 1 + (liL c).length ≤ line) = true := dline (by omega)
        have f5 : decide (acc.length + 1 + (liL b).length + 1 + (liL c).length < line) = true := lt _ (by omega)
        have fs : decide (((t.map testS).map List.length).sum + t.length * 2 ≤ line) = true := dline (by omega)
        have fin : ∀ y y3 y4 y5, ∃ (acc' : List (List Nat)) (z z3 z4 z5 : Option T), [some (.tup l), some (.lst true (acc.map .str ++ [.str (105 :: 102 :: 32 :: testsS t)] ++ (liL b).map .str ++ [.str [101, 108, 115, 101]] ++ (liL c).map .str ++ [.str [101, 110, 100]])), y, y3, y4, y5, none] = [some (.tup l), some (.lst true (acc'.map .str)), z, z3, z4, z5, none] ∧ acc' ++ liL r = liL l ∧ ∀ x ∈ r, Stm N m B (d + 1) x := by
          intro y y3 y4 y5
          refine ⟨acc ++ ((wIf ++ 32 :: testsS t) :: (liL b ++ wElse :: (liL c ++ [wEnd]))), y, y3, y4, y5, ?_, by rw [List.append_assoc]; exact hk, hr'⟩
          simp [wIf, wElse, wEnd]
        have ur := u_rows (n + (d + 1)) hB hm (.tup l) (acc.map .str) (.tup [.str wIf, .tup t, .tup b, .tup c]) t ht hl
        unfold wIf at ur
        cases t with
        | nil =>
          have ta : testsS [] = [97, 108, 119, 97, 121, 115] := rfl
          rw [ta] at fin f0
          simp! only [wIf, e1, e2, f0, f1, f2, f3, f4, f5, List.length_map, List.length_append]
          exact fin _ _ _ _
        | cons a t =>
          have tj : joinS [44, 32] ((a :: t).map testS) = testsS (a :: t) := rfl
          have hne : eqbs (((a :: t).map testS).map T.str) [] = false := rfl
          have hds : dats 63 (((a :: t).map testS).map T.str) = true := dats_of fun x hx => by obtain ⟨i, _, rfl⟩ := List.mem_map.mp hx; rfl
          generalize a :: t = k at *
          simp! only [wIf]
          refine ur _ _ _ fun y4 y5 => ?_
          simp! only [hds, hne, strs_m, fs, tj, e1, e2, f0, f1, f2, f3, f4, f5, List.length_map, List.length_append]
          exact fin _ _ _ _
    · rintro e ⟨acc, y, y3, y4, y5, rfl, hk, _⟩
      rw [liL_nil, List.append_nil] at hk
      subst hk
      simp! only []
      exact ⟨rfl, rfl⟩
theorem u_text (n : Nat) {N : List (List Nat)} {W : List Int} {b : T} {body : List T} (h : LoopOk N W b body) : prog.tab (n + 6) 43 [loopT W b body] = .ret (.str (textT W b body)) [none] := by
  refine Pe_ret ?_
  rw [tabs (n + 5) 43 l_text _ rfl]
  have hs := worths_sum h.w
  have hl := Nat.le_trans (joinS_le [32] (W.map digS)) hs
  have h3 := (begin_len h).1
  have h4 := (linesT_ok h).1
  have hw := h.w.2.1
  have g : W.map (fun x => T.str (digS x)) = (W.map digS).map T.str := by simp
  have e1 : decide (((W.map digS).map List.length).sum + W.length * 1 ≤ line) = true := dline (by rw [List.length_map] at hs; omega)
  have e2 : decide (7 + (joinS [32] (W.map digS)).length ≤ line) = true := dline (by omega)
  have e3 : prog.tab (n + 5) 42 [.tup body] = _ := u_lines N (Int.le_refl 9) h.hm 4 n body h.b.2 (by unfold linesT at h4; simp only [List.length_cons] at h4; omega)
  have e4 : decide (2 + (liL body).length ≤ line) = true := dline (by unfold linesT at h4; simp only [List.length_cons] at h4; omega)
  have sj : ∀ (x y : List Nat) (L : List (List Nat)), strs? (.str x :: .str y :: L.map .str) = some (x :: y :: L) := fun x y L => strs_m (x :: y :: L)
  have ts := text_sum h
  simp! only [l_text, loopT, tupI]
  refine turns_2 (m := (W.map digS).map T.str) (by rw [List.length_map]; show W.length ≤ 16777216; omega) (by
    rw [← g]
    refine A2.lmap (g := T.int) (A2.map fun x hx => ?_)
    simp! only [worth_b1 h.w x hx]
    exact ⟨rfl, rfl⟩) fun e he => ?_
  rw [he]
  rotate_left
  · rfl
  rcases begin_cases h with rfl | ⟨i, rfl, h0, h1⟩
  · have e6 : decide (((((119 :: 111 :: 114 :: 116 :: 104 :: 115 :: 32 :: joinS [32] (W.map digS)) :: [98, 101, 103, 105, 110, 32, 110, 111, 110, 101] :: liL body).map List.length).sum + ((119 :: 111 :: 114 :: 116 :: 104 :: 115 :: 32 :: joinS [32] (W.map digS)) :: [98, 101, 103, 105, 110, 32, 110, 111, 110, 101] :: liL body).length * 1) ≤ line) = true := dline (Nat.le_trans ts (by omega))
    simp -dsimp only [List.map_cons, List.length_cons, List.length_nil, Nat.reduceAdd] at e6
    simp! only [strs_m, e1, e2, e3, e4, List.length_map, sj, e6]
    exact ⟨rfl, rfl⟩
  · have e5 : decide (6 + (digS i).length ≤ line) = true := dline (by have := (dig_ok h0 h1).1; omega)
    have e6 : decide (((((119 :: 111 :: 114 :: 116 :: 104 :: 115 :: 32 :: joinS [32] (W.map digS)) :: (98 :: 101 :: 103 :: 105 :: 110 :: 32 :: digS i) :: liL body).map List.length).sum + ((119 :: 111 :: 114 :: 116 :: 104 :: 115 :: 32 :: joinS [32] (W.map digS)) :: (98 :: 101 :: 103 :: 105 :: 110 :: 32 :: digS i) :: liL body).length * 1) ≤ line) = true := dline (Nat.le_trans ts (by omega))
    simp -dsimp only [List.map_cons, List.length_cons, List.length_nil, Nat.reduceAdd] at e6
    simp! only [strs_m, e1, e2, e3, e4, e5, begin_b1 h, List.length_map, sj, e6]
    exact ⟨rfl, rfl⟩
end ViLaw

set_option maxRecDepth 100000
set_option maxHeartbeats 4000000
set_option linter.all false
set_option autoImplicit false
namespace ViLaw
open Vi
/-! ### unlike loops have unlike texts -/
theorem dig_inj {i j : Int} (hi : -1 ≤ i ∧ i ≤ 9) (hj : -1 ≤ j ∧ j ≤ 9) (h : digS i = digS j) : i = j := by
  unfold digS at h
  by_cases h1 : i < 0 <;> by_cases h2 : j < 0
  · omega
  · rw [if_pos h1, if_neg h2] at h; simp at h
  · rw [if_neg h1, if_pos h2] at h; simp at h
  · rw [if_neg h1, if_neg h2] at h; simp at h; omega
theorem fact_inj {m : Nat} {B : Int} (hB : B ≤ 9) {f g : T} (hf : Fact m B f) (hg : Fact m B g) (h : factW f = factW g) : f = g := by
  cases hf with
  | ahead =>
    cases hg with
    | ahead => rfl
    | num w s i hw hs h0 h1 => simp [factW] at h
    | «at» e c he hc => simp [factW] at h
  | num w s i hw hs h0 h1 =>
    cases hg with
    | ahead => simp [factW] at h
    | num w' s' i' hw' hs' h0' h1' =>
      simp only [factW, itemS, List.map_cons, List.map_nil, List.cons.injEq, and_true] at h
      obtain ⟨rfl, rfl, h⟩ := h
      rw [dig_inj ⟨by omega, by omega⟩ ⟨by omega, by omega⟩ h]
    | «at» e c he hc =>
      simp only [factW, itemS, List.map_cons, List.map_nil, List.cons.injEq, and_true] at h
      obtain ⟨h, _⟩ := h
      rcases hw with rfl | rfl <;> exact absurd h (by decide)
  | «at» e c he hc =>
    cases hg with
    | ahead => simp [factW] at h
    | num w' s' i' hw' hs' h0' h1' =>
      simp only [factW, itemS, List.map_cons, List.map_nil, List.cons.injEq, and_true] at h
      obtain ⟨h, _⟩ := h
      rcases hw' with rfl | rfl <;> exact absurd h (by decide)
    | «at» e' c' he' hc' =>
      simp only [factW, itemS, List.map_cons, List.map_nil, List.cons.injEq, and_true] at h
      obtain ⟨_, rfl, h⟩ := h
      have : c = c' := by omega
      rw [this]
theorem test_inj {m : Nat} {B : Int} (hB : B ≤ 9) (hm : m ≤ 3) {f g : T} (hf : Test m B f) (hg : Test m B g) (h : testS f = testS g) : f = g := by
  obtain ⟨b, f, rfl, hf⟩ := hf
  obtain ⟨c, g, rfl, hg⟩ := hg
  have e := congrArg (splS [32] 0 []) h
  rw [test_spl hB hm b hf, test_spl hB hm c hg] at e
  obtain ⟨w, r, e1, n1, _⟩ := fact_w hB hm hf
  obtain ⟨w', r', e2, n2, _⟩ := fact_w hB hm hg
  have n1 : w ≠ wNot := by simpa using n1
  have n2 : w' ≠ wNot := by simpa using n2
  cases b <;> cases c
  · have e : wNot :: factW (.tup f) = wNot :: factW (.tup g) := e
    injection e with _ e
    rw [fact_inj hB hf hg e]
  · have e : wNot :: factW (.tup f) = factW (.tup g) := e
    rw [e2] at e; injection e with e _; exact absurd e.symm n2
  · have e : factW (.tup f) = wNot :: factW (.tup g) := e
    rw [e1] at e; injection e with e _; exact absurd e n1
  · have e : factW (.tup f) = factW (.tup g) := e
    rw [fact_inj hB hf hg e]
theorem map_inj' {α β : Type} {f : α → β} : ∀ {l m : List α}, (∀ x ∈ l, ∀ y ∈ m, f x = f y → x = y) → l.map f = m.map f → l = m
  | [], [], _, _ => rfl
  | [], _ :: _, _, h => by simp at h
  | _ :: _, [], _, h => by simp at h
  | a :: l, b :: m, w, h => by
    rw [List.map_cons, List.map_cons] at h
    injection h with h1 h2
    rw [w a List.mem_cons_self b List.mem_cons_self h1, map_inj' (fun x hx y hy => w x (List.mem_cons_of_mem _ hx) y (List.mem_cons_of_mem _ hy)) h2]
theorem tests_spl {m : Nat} {B : Int} {a : T} {l : List T} (hB : B ≤ 9) (hm : m ≤ 3) (h : ∀ x ∈ a :: l, Test m B x) : splS [44, 32] 0 [] (testsS (a :: l)) = (a :: l).map testS := spl_joinS (by simp) fun p hp => by
  obtain ⟨y, hy, rfl⟩ := List.mem_map.mp hp
  intro hc
  rcases test_in_c hB hm (h y hy) _ hc with h | h <;> omega
theorem tests_inj {m : Nat} {B : Int} (hB : B ≤ 9) (hm : m ≤ 3) {l k : List T} (hl : ∀ x ∈ l, Test m B x) (hk : ∀ x ∈ k, Test m B x) (h : testsS l = testsS k) : l = k := by
  cases l with
  | nil =>
    cases k with
    | nil => rfl
    | cons a k =>
      have := tests_ne (l := k) hB hm (hk a List.mem_cons_self)
      rw [← h] at this
      exact absurd this (by decide)
  | cons a l =>
    cases k with
    | nil =>
      have := tests_ne (l := l) hB hm (hl a List.mem_cons_self)
      rw [h] at this
      exact absurd this (by decide)
    | cons b k =>
      have e := congrArg (splS [44, 32] 0 []) h
      rw [tests_spl hB hm hl, tests_spl hB hm hk] at e
      exact map_inj' (fun x hx y hy => test_inj hB hm (hl x hx) (hk y hy)) e
/-- a line that ends a body -/
def EndL (C : List (List Nat)) : Prop := C = [] ∨ ∃ w r, C = w :: r ∧ (w = wElse ∨ w = wEnd)
/-- the first word of a statement's line, and the rest -/
theorem stm_line {N : List (List Nat)} {m : Nat} {B : Int} {d : Nat} {s : T} (h : Stm N m B d s) : ∃ z r, liS s = z :: r ∧ z ≠ wElse ∧ z ≠ wEnd := by
  cases h with
  | plain d w h => exact ⟨_, _, liS_plain w, by rcases h with rfl | rfl | rfl | rfl | rfl <;> decide, by rcases h with rfl | rfl | rfl | rfl | rfl <;> decide⟩
  | note d w a h hN ha => exact ⟨_, _, liS_note w a, by rcases h with rfl | rfl <;> rcases ha with rfl | rfl <;> decide, by rcases h with rfl | rfl <;> rcases ha with rfl | rfl <;> decide⟩
  | count d a hN ha => exact ⟨_, _, liS_note wCount a, by rcases ha with rfl | rfl <;> decide, by rcases ha with rfl | rfl <;> decide⟩
  | whl d t b _ _ _ _ => exact ⟨_, _, liS_whl wWhile t b, by simp [wWhile, wElse], by simp [wWhile, wEnd]⟩
  | iff d t b c _ _ _ _ _ _ => exact ⟨_, _, liS_if wIf t b c, by simp [wIf, wElse], by simp [wIf, wEnd]⟩
theorem endL_no {N : List (List Nat)} {m : Nat} {B : Int} {d : Nat} {s : T} (h : Stm N m B d s) {C D : List (List Nat)} (hC : EndL C) (e : C = liS s ++ D) : False := by
  obtain ⟨z, r, e1, n1, n2⟩ := stm_line h
  rw [e1] at e
  rcases hC with rfl | ⟨w, q, rfl, hw⟩
  · cases e
  · injection e with e _
    rcases hw with rfl | rfl
    · exact n1 e.symm
    · exact n2 e.symm
/-- the kind of a statement: what its line is cut into -/
theorem line_cut {N : List (List Nat)} {m : Nat} {B : Int} {d : Nat} {s : T} (h : Stm N m B d s) : ∃ z r w ws, liS s = z :: r ∧ splS [32] 0 [] z = w :: ws ∧ s = s ∧ ((w ≠ wWhile ∧ w ≠ wIf ∧ r = [] ∧ s = .tup (.str w :: ws.map .str)) ∨ (w = wWhile ∧ ∃ t b, s = .tup [.str wWhile, .tup t, .tup b]) ∨ (w = wIf ∧ ∃ t b c, s = .tup [.str wIf, .tup t, .tup b, .tup c])) := by
  cases h with
  | plain d w h =>
    refine ⟨w, [], w, [], liS_plain w, ?_, rfl, .inl ?_⟩
    · rcases h with rfl | rfl | rfl | rfl | rfl <;> rfl
    · rcases h with rfl | rfl | rfl | rfl | rfl <;> exact ⟨by decide, by decide, rfl, rfl⟩
  | note d w a h hN ha =>
    refine ⟨_, [], w, [a], liS_note w a, ?_, rfl, .inl ?_⟩
    · rcases h with rfl | rfl <;> rcases ha with rfl | rfl <;> rfl
    · rcases h with rfl | rfl <;> exact ⟨by decide, by decide, rfl, rfl⟩
  | count d a hN ha =>
    refine ⟨_, [], wCount, [a], liS_note wCount a, ?_, rfl, .inl ⟨by decide, by decide, rfl, rfl⟩⟩
    rcases ha with rfl | rfl <;> rfl
  | whl d t b _ _ _ _ => exact ⟨_, _, wWhile, _, liS_whl wWhile t b, spl_head (by decide), rfl, .inr (.inl ⟨rfl, t, b, rfl⟩)⟩
  | iff d t b c _ _ _ _ _ _ => exact ⟨_, _, wIf, _, liS_if wIf t b c, spl_head (by decide), rfl, .inr (.inr ⟨rfl, t, b, c, rfl⟩)⟩
theorem whl_inv {N : List (List Nat)} {m : Nat} {B : Int} {d : Nat} {t b : List T} (h : Stm N m B (d + 1) (.tup [.str wWhile, .tup t, .tup b])) : (∀ x ∈ t, Test m B x) ∧ (∀ x ∈ b, Stm N m B d x) ∧ t.length ≤ 3 ∧ b.length ≤ 8 := by
  cases h with
  | whl _ _ _ ht hl hb hl2 => exact ⟨ht, hb, hl, hl2⟩
theorem if_inv {N : List (List Nat)} {m : Nat} {B : Int} {d : Nat} {t b c : List T} (h : Stm N m B (d + 1) (.tup [.str wIf, .tup t, .tup b, .tup c])) : (∀ x ∈ t, Test m B x) ∧ (∀ x ∈ b, Stm N m B d x) ∧ (∀ x ∈ c, Stm N m B d x) ∧ t.length ≤ 3 ∧ b.length ≤ 8 ∧ c.length ≤ 8 := by
  cases h with
  | iff _ _ _ _ ht hl hb hl2 hc hl3 => exact ⟨ht, hb, hc, hl, hl2, hl3⟩
theorem lines_inj {N : List (List Nat)} {m : Nat} {B : Int} (hB : B ≤ 9) (hm : m ≤ 3) : ∀ (d : Nat) (l k : List T) (C D : List (List Nat)), (∀ x ∈ l, Stm N m B d x) → (∀ x ∈ k, Stm N m B d x) → EndL C → EndL D → liL l ++ C = liL k ++ D → l = k ∧ C = D := by
  intro d
  induction d with
  | zero =>
    intro l k C D hl hk _ _ h
    have e1 : l = [] := by
      cases l with
      | nil => rfl
      | cons x l => exact nomatch hl x List.mem_cons_self
    have e2 : k = [] := by
      cases k with
      | nil => rfl
      | cons x l => exact nomatch hk x List.mem_cons_self
    subst e1 e2
    exact ⟨rfl, by simpa [liL_nil] using h⟩
  | succ d ih =>
    intro l
    induction l with
    | nil =>
      intro k C D _ hk hC hD h
      rw [liL_nil, List.nil_append] at h
      cases k with
      | nil => rw [liL_nil, List.nil_append] at h; exact ⟨rfl, h⟩
      | cons s k =>
        rw [liL_cons, List.append_assoc] at h
        exact (endL_no (hk s List.mem_cons_self) hC h).elim
    | cons s l ihl =>
      intro k C D hl hk hC hD h
      cases k with
      | nil =>
        rw [liL_nil, List.nil_append, liL_cons, List.append_assoc] at h
        exact (endL_no (hl s List.mem_cons_self) hD h.symm).elim
      | cons s' k =>
        rw [liL_cons, liL_cons, List.append_assoc, List.append_assoc] at h
        have hs := hl s List.mem_cons_self
        have hs' := hk s' List.mem_cons_self
        have hl' : ∀ x ∈ l, Stm N m B (d + 1) x := fun x hx => hl x (List.mem_cons_of_mem _ hx)
        have hk' : ∀ x ∈ k, Stm N m B (d + 1) x := fun x hx => hk x (List.mem_cons_of_mem _ hx)
        obtain ⟨z, r, w, ws, e1, c1, _, k1⟩ := line_cut hs
        obtain ⟨z', r', w', ws', e2, c2, _, k2⟩ := line_cut hs'
        have hz : z = z' := by rw [e1, e2] at h; injection h
        have hw : w = w' ∧ ws = ws' := by rw [hz, c2] at c1; injection c1 with a b; exact ⟨a.symm, b.symm⟩
        obtain ⟨rfl, rfl⟩ := hw
        rcases k1 with ⟨n1, n2, rfl, rfl⟩ | ⟨rfl, t, b, rfl⟩ | ⟨rfl, t, b, c, rfl⟩
        · rcases k2 with ⟨_, _, rfl, rfl⟩ | ⟨hh, _⟩ | ⟨hh, _⟩
          · rw [e1] at h
            injection h with _ h
            obtain ⟨a1, a2⟩ := ihl k C D hl' hk' hC hD h
            rw [a1]; exact ⟨rfl, a2⟩
          · exact absurd hh n1
          · exact absurd hh n2
        · rcases k2 with ⟨hh, _⟩ | ⟨_, t', b', rfl⟩ | ⟨hh, _⟩
          · exact absurd rfl hh
          · obtain ⟨p1, p2, _⟩ := whl_inv hs
            obtain ⟨q1, q2, _⟩ := whl_inv hs'
            rw [liS_whl, liS_whl, List.cons_append, List.cons_append, List.append_assoc, List.append_assoc] at h
            injection h with h1 h2
            have h1 : testsS t = testsS t' := by simpa using h1
            obtain ⟨b1, b2⟩ := ih b b' _ _ p2 q2 (.inr ⟨wEnd, _, rfl, .inr rfl⟩) (.inr ⟨wEnd, _, rfl, .inr rfl⟩) h2
            injection b2 with _ b2
            obtain ⟨a1, a2⟩ := ihl k C D hl' hk' hC hD b2
            rw [tests_inj hB hm p1 q1 h1, b1, a1]; exact ⟨rfl, a2⟩
          · exact absurd hh (by decide)
        · rcases k2 with ⟨_, hh, _⟩ | ⟨hh, _⟩ | ⟨_, t', b', c', rfl⟩
          · exact absurd rfl hh
          · exact absurd hh (by decide)
          · obtain ⟨p1, p2, p3, _⟩ := if_inv hs
            obtain ⟨q1, q2, q3, _⟩ := if_inv hs'
            rw [liS_if, liS_if, List.cons_append, List.cons_append, List.append_assoc, List.append_assoc, List.cons_append, List.cons_append, List.append_assoc, List.append_assoc] at h
            injection h with h1 h2
            have h1 : testsS t = testsS t' := by simpa using h1
            obtain ⟨b1, b2⟩ := ih b b' _ _ p2 q2 (.inr ⟨wElse, _, rfl, .inl rfl⟩) (.inr ⟨wElse, _, rfl, .inl rfl⟩) h2
            injection b2 with _ b2
            obtain ⟨c1, c2⟩ := ih c c' _ _ p3 q3 (.inr ⟨wEnd, _, rfl, .inr rfl⟩) (.inr ⟨wEnd, _, rfl, .inr rfl⟩) b2
            injection c2 with _ c2
            obtain ⟨a1, a2⟩ := ihl k C D hl' hk' hC hD c2
            rw [tests_inj hB hm p1 q1 h1, b1, c1, a1]; exact ⟨rfl, a2⟩
theorem textT_inj {N : List (List Nat)} {W : List Int} {b b' : T} {body body' : List T} (h : LoopOk N W b body) (h' : LoopOk N W b' body') (e : textT W b body = textT W b' body') : b = b' ∧ body = body' := by
  have no10 : ∀ {N : List (List Nat)} {W : List Int} {b : T} {body : List T}, LoopOk N W b body → ∀ z ∈ linesT W b body, 10 ∉ z := fun h z hz hc => by
    have := ((linesT_ok h).2 z hz).2 10 hc; omega
  have e1 := congrArg (splS [10] 0 []) e
  unfold textT at e1
  rw [spl_joinS (by unfold linesT; simp) (no10 h), spl_joinS (by unfold linesT; simp) (no10 h')] at e1
  unfold linesT at e1
  injection e1 with _ e1
  injection e1 with e2 e1
  have e2 : beginS b = beginS b' := by simpa using e2
  refine ⟨?_, (lines_inj (B := 9) (by omega) h.hm 4 body body' [] [] h.b.2 h'.b.2 (.inl rfl) (.inl rfl) (by rw [e1])).1⟩
  rcases begin_cases h with rfl | ⟨i, rfl, i0, i1⟩ <;> rcases begin_cases h' with rfl | ⟨j, rfl, j0, j1⟩
  · rfl
  · have := (dig_ok j0 j1).1
    have hl := congrArg List.length e2
    have e3 : wNone = digS j := e2
    unfold digS at e3
    split at e3 <;> exact absurd e3 (by simp [wNone])
  · have e3 : digS i = wNone := e2
    unfold digS at e3
    split at e3 <;> exact absurd e3 (by simp [wNone])
  · rw [dig_inj ⟨i0, i1⟩ ⟨j0, j1⟩ e2]
end ViLaw

set_option maxRecDepth 100000
set_option maxHeartbeats 4000000
set_option linter.all false
set_option autoImplicit false
namespace ViLaw
open Vi
/-! ### single changes, plainly -/
def inR (n : Int) : Bool := decide (0 ≤ n) && decide (n ≤ 9)
def flipS (s : List Nat) : List Nat := bif s == wOver then wIs else wOver
def cf : T → List T
  | .tup [.str w, .str s, .int n] => bif wSum == w || sSize == w then
      ((bif inR (n - 1) then [.tup [.str w, .str s, .int (n - 1)]] else []) ++ (bif inR (n + 1) then [.tup [.str w, .str s, .int (n + 1)]] else [])) ++ [.tup [.str w, .str (flipS s), .int n]] else []
  | _ => []
def ct : T → List T
  | .tup [.bl b, f] => .tup [.bl (!b), f] :: (cf f).map fun g => .tup [.bl b, g]
  | _ => []
def ctsA : List T → List T → List (List T)
  | _, [] => []
  | pre, t :: r => (ct t).map (fun x => pre ++ x :: r) ++ ctsA (pre ++ [t]) r
def sw (pre : List T) (s : T) : List T → List (List T)
  | [] => []
  | y :: q => [pre ++ y :: s :: q]
mutual
def osT : T → List T
  | .tup (.str w :: .tup t :: r) => ((ctsA [] t).map fun t' => .tup (.str w :: .tup t' :: r)) ++ osR [.str w, .tup t] r
  | _ => []
def osR : List T → List T → List T
  | _, [] => []
  | pre, .tup b :: r => ((obA [] b).map fun b' => .tup (pre ++ .tup b' :: r)) ++ osR (pre ++ [.tup b]) r
  | pre, x :: r => osR (pre ++ [x]) r
def obA : List T → List T → List (List T)
  | _, [] => []
  | pre, s :: r => (pre ++ r) :: ((osT s).map (fun x => pre ++ x :: r) ++ (sw pre s r ++ obA (pre ++ [s]) r))
end
def swL (pre : List T) (s : T) (r : List T) : List (List T) := match pre.reverse with
  | [] => []
  | y :: p => [p.reverse ++ s :: y :: r]
mutual
def lsT : T → List T
  | .tup (.str w :: .tup t :: r) => ((ctsA [] t).map fun t' => .tup (.str w :: .tup t' :: r)) ++ lsR [.str w, .tup t] r
  | _ => []
def lsR : List T → List T → List T
  | _, [] => []
  | pre, .tup b :: r => ((lcA [] b).map fun b' => .tup (pre ++ .tup b' :: r)) ++ lsR (pre ++ [.tup b]) r
  | pre, x :: r => lsR (pre ++ [x]) r
def lcA : List T → List T → List (List T)
  | _, [] => []
  | pre, s :: r => (pre ++ r) :: (swL pre s r ++ ((lsT s).map (fun x => pre ++ x :: r) ++ lcA (pre ++ [s]) r))
end
theorem obA_nil (pre : List T) : obA pre [] = [] := by rw [obA]
theorem obA_cons (pre : List T) (s : T) (r : List T) : obA pre (s :: r) = (pre ++ r) :: ((osT s).map (fun x => pre ++ x :: r) ++ (sw pre s r ++ obA (pre ++ [s]) r)) := by rw [obA]
theorem lcA_nil (pre : List T) : lcA pre [] = [] := by rw [lcA]
theorem lcA_cons (pre : List T) (s : T) (r : List T) : lcA pre (s :: r) = (pre ++ r) :: (swL pre s r ++ ((lsT s).map (fun x => pre ++ x :: r) ++ lcA (pre ++ [s]) r)) := by rw [lcA]
theorem osT_plain (w : List Nat) : osT (.tup [.str w]) = [] := by
  rw [osT]
  intro w t r h; simp at h
theorem osT_note (w a : List Nat) : osT (.tup [.str w, .str a]) = [] := by
  rw [osT]
  intro w t r h; simp at h
theorem osT_whl (w : List Nat) (t b : List T) : osT (.tup [.str w, .tup t, .tup b]) = ((ctsA [] t).map fun t' => .tup [.str w, .tup t', .tup b]) ++ (obA [] b).map fun b' => .tup [.str w, .tup t, .tup b'] := by
  rw [osT, osR, osR, List.append_nil]; rfl
theorem osT_if (w : List Nat) (t b c : List T) : osT (.tup [.str w, .tup t, .tup b, .tup c]) = ((ctsA [] t).map fun t' => .tup [.str w, .tup t', .tup b, .tup c]) ++ (((obA [] b).map fun b' => .tup [.str w, .tup t, .tup b', .tup c]) ++ (obA [] c).map fun c' => .tup [.str w, .tup t, .tup b, .tup c']) := by
  rw [osT, osR, osR, osR, List.append_nil]; rfl
theorem lsT_plain (w : List Nat) : lsT (.tup [.str w]) = [] := by
  rw [lsT]
  intro w t r h; simp at h
theorem lsT_note (w a : List Nat) : lsT (.tup [.str w, .str a]) = [] := by
  rw [lsT]
  intro w t r h; simp at h
theorem lsT_whl (w : List Nat) (t b : List T) : lsT (.tup [.str w, .tup t, .tup b]) = ((ctsA [] t).map fun t' => .tup [.str w, .tup t', .tup b]) ++ (lcA [] b).map fun b' => .tup [.str w, .tup t, .tup b'] := by
  rw [lsT, lsR, lsR, List.append_nil]; rfl
theorem lsT_if (w : List Nat) (t b c : List T) : lsT (.tup [.str w, .tup t, .tup b, .tup c]) = ((ctsA [] t).map fun t' => .tup [.str w, .tup t', .tup b, .tup c]) ++ (((lcA [] b).map fun b' => .tup [.str w, .tup t, .tup b', .tup c]) ++ (lcA [] c).map fun c' => .tup [.str w, .tup t, .tup b, .tup c']) := by
  rw [lsT, lsR, lsR, lsR, List.append_nil]; rfl
/-! what comes is again a fact, a test, .. -/
theorem inR_of {n : Int} (h : inR n = true) : 0 ≤ n ∧ n ≤ 9 := by
  unfold inR at h
  rw [Bool.and_eq_true, decide_eq_true_eq, decide_eq_true_eq] at h
  exact h
theorem flip_ok {s : List Nat} (h : s = wIs ∨ s = wOver) : flipS s = wIs ∨ flipS s = wOver := by rcases h with rfl | rfl <;> decide
theorem cf_len (f : T) : (cf f).length ≤ 3 := by
  unfold cf
  split
  · cases (wSum == _ || sSize == _)
    · simp
    · simp only [cond_true]
      cases inR _ <;> cases inR _ <;> simp
  · simp
theorem cf_num {w s : List Nat} {n : Int} (e : (wSum == w || sSize == w) = true) : cf (.tup [.str w, .str s, .int n]) = ((bif inR (n - 1) then [.tup [.str w, .str s, .int (n - 1)]] else []) ++ (bif inR (n + 1) then [.tup [.str w, .str s, .int (n + 1)]] else [])) ++ [.tup [.str w, .str (flipS s), .int n]] := by
  show (bif wSum == w || sSize == w then _ else _) = _
  rw [e]; rfl
theorem cf_ok {m : Nat} {f g : T} (h : Fact m 9 f) (hg : g ∈ cf f) : Fact m 9 g := by
  cases h with
  | ahead => simp [cf] at hg
  | num w s i hw hs h0 h1 =>
    have e : (wSum == w || sSize == w) = true := by rcases hw with rfl | rfl <;> decide
    rw [cf_num e] at hg
    simp only [List.mem_append, List.mem_singleton] at hg
    rcases hg with (hg | hg) | rfl
    · cases q : inR (i - 1) with
      | false => rw [q] at hg; simp at hg
      | true =>
        rw [q] at hg
        simp at hg
        subst hg
        have := inR_of q
        exact .num w s _ hw hs (by omega) (by omega)
    · cases q : inR (i + 1) with
      | false => rw [q] at hg; simp at hg
      | true =>
        rw [q] at hg
        simp at hg
        subst hg
        have := inR_of q
        exact .num w s _ hw hs (by omega) (by omega)
    · exact .num w _ i hw (flip_ok hs) h0 h1
  | «at» e c he hc => simp [cf] at hg
theorem ct_ok {m : Nat} {t x : T} (h : Test m 9 t) (hx : x ∈ ct t) : Test m 9 x := by
  obtain ⟨b, f, rfl, hf⟩ := h
  rcases List.mem_cons.mp hx with rfl | hx
  · exact ⟨!b, f, rfl, hf⟩
  · obtain ⟨g, hg, rfl⟩ := List.mem_map.mp hx
    have := cf_ok hf hg
    obtain ⟨l, rfl⟩ : ∃ l, g = .tup l := by cases this <;> exact ⟨_, rfl⟩
    exact ⟨b, l, rfl, this⟩
theorem cts_ok {m : Nat} : ∀ (l pre : List T) (x : List T), (∀ t ∈ pre, Test m 9 t) → (∀ t ∈ l, Test m 9 t) → x ∈ ctsA pre l → (∀ t ∈ x, Test m 9 t) ∧ x.length = pre.length + l.length
  | [], pre, x, _, _, h => by simp [ctsA] at h
  | t :: r, pre, x, hp, hl, h => by
    rw [ctsA] at h
    rcases List.mem_append.mp h with h | h
    · obtain ⟨y, hy, rfl⟩ := List.mem_map.mp h
      refine ⟨fun z hz => ?_, by simp⟩
      rcases List.mem_append.mp hz with hz | hz
      · exact hp z hz
      · rcases List.mem_cons.mp hz with rfl | hz
        · exact ct_ok (hl t List.mem_cons_self) hy
        · exact hl z (List.mem_cons_of_mem _ hz)
    · obtain ⟨h1, h2⟩ := cts_ok r (pre ++ [t]) x (fun z hz => by
        rcases List.mem_append.mp hz with hz | hz
        · exact hp z hz
        · rw [List.mem_singleton] at hz; subst hz; exact hl z List.mem_cons_self) (fun z hz => hl z (List.mem_cons_of_mem _ hz)) h
      exact ⟨h1, by simp at h2 ⊢; omega⟩
theorem cts_len : ∀ (l pre : List T), (ctsA pre l).length ≤ 4 * l.length
  | [], pre => by simp [ctsA]
  | t :: r, pre => by
    rw [ctsA, List.length_append, List.length_map, List.length_cons]
    have h1 := cts_len r (pre ++ [t])
    have h2 : (ct t).length ≤ 4 := by
      unfold ct
      split
      · have := cf_len ‹T›
        simp; omega
      · simp
    omega
theorem szL_app : ∀ (a b : List T), szL (a ++ b) = szL a + szL b
  | [], b => by simp [szL_nil]
  | s :: a, b => by rw [List.cons_append, szL_cons, szL_cons, szL_app a b]; omega
theorem ob_ok (N : List (List Nat)) {m : Nat} : ∀ (d : Nat), (∀ s, Stm N m 9 d s → (osT s).length + 2 ≤ 20 * (lsS s).length ∧ ∀ x ∈ osT s, Stm N m 9 d x ∧ (lsS x).length ≤ (lsS s).length) ∧
    (∀ l pre, (∀ s ∈ l, Stm N m 9 d s) → (∀ s ∈ pre, Stm N m 9 d s) → (obA pre l).length ≤ 20 * szL l ∧ ∀ x ∈ obA pre l, (∀ s ∈ x, Stm N m 9 d s) ∧ x.length ≤ pre.length + l.length ∧ szL x ≤ szL pre + szL l) := by
  intro d
  have L : ∀ d, (∀ s, Stm N m 9 d s → (osT s).length + 2 ≤ 20 * (lsS s).length ∧ ∀ x ∈ osT s, Stm N m 9 d x ∧ (lsS x).length ≤ (lsS s).length) → ∀ l pre, (∀ s ∈ l, Stm N m 9 d s) → (∀ s ∈ pre, Stm N m 9 d s) → (obA pre l).length ≤ 20 * szL l ∧ ∀ x ∈ obA pre l, (∀ s ∈ x, Stm N m 9 d s) ∧ x.length ≤ pre.length + l.length ∧ szL x ≤ szL pre + szL l := by
    intro d S l
    induction l with
    | nil => intro pre _ _; rw [obA_nil]; exact ⟨by simp, fun x hx => by simp at hx⟩
    | cons s r ih =>
      intro pre hl hp
      have hs := hl s List.mem_cons_self
      have hr : ∀ y ∈ r, Stm N m 9 d y := fun y hy => hl y (List.mem_cons_of_mem _ hy)
      obtain ⟨s1, s2⟩ := S s hs
      have hp' : ∀ y ∈ pre ++ [s], Stm N m 9 d y := fun y hy => by
        rcases List.mem_append.mp hy with hy | hy
        · exact hp y hy
        · rw [List.mem_singleton] at hy; subst hy; exact hs
      obtain ⟨i1, i2⟩ := ih (pre ++ [s]) hr hp'
      rw [obA_cons, szL_cons]
      have hsw : (sw pre s r).length ≤ 1 := by cases r <;> simp [sw]
      refine ⟨by simp only [List.length_cons, List.length_append, List.length_map]; omega, fun x hx => ?_⟩
      rcases List.mem_cons.mp hx with rfl | hx
      · refine ⟨fun y hy => ?_, by simp, by rw [szL_app]; omega⟩
        rcases List.mem_append.mp hy with hy | hy
        · exact hp y hy
        · exact hr y hy
      · rcases List.mem_append.mp hx with hx | hx
        · obtain ⟨z, hz, rfl⟩ := List.mem_map.mp hx
          obtain ⟨z1, z2⟩ := s2 z hz
          refine ⟨fun y hy => ?_, by simp, by rw [szL_app, szL_cons]; omega⟩
          rcases List.mem_append.mp hy with hy | hy
          · exact hp y hy
          · rcases List.mem_cons.mp hy with rfl | hy
            · exact z1
            · exact hr y hy
        · rcases List.mem_append.mp hx with hx | hx
          · cases r with
            | nil => simp [sw] at hx
            | cons y q =>
              have hx : x ∈ [pre ++ y :: s :: q] := hx
              rw [List.mem_singleton] at hx
              subst hx
              refine ⟨fun u hu => ?_, by simp, by rw [szL_app, szL_cons, szL_cons, szL_cons]; omega⟩
              rcases List.mem_append.mp hu with hu | hu
              · exact hp u hu
              · rcases List.mem_cons.mp hu with rfl | hu
                · exact hr u List.mem_cons_self
                · rcases List.mem_cons.mp hu with rfl | hu
                  · exact hs
                  · exact hr u (List.mem_cons_of_mem _ hu)
          · obtain ⟨j1, j2, j3⟩ := i2 x hx
            refine ⟨j1, by simp at j2 ⊢; omega, ?_⟩
            rw [szL_app, szL_cons, szL_nil] at j3; omega
  induction d with
  | zero => exact ⟨(fun s h => nomatch h), L 0 (fun s h => nomatch h)⟩
  | succ d ih =>
    have S : ∀ s, Stm N m 9 (d + 1) s → (osT s).length + 2 ≤ 20 * (lsS s).length ∧ ∀ x ∈ osT s, Stm N m 9 (d + 1) x ∧ (lsS x).length ≤ (lsS s).length := by
      intro s hs
      cases hs with
      | plain _ w hw => rw [osT_plain, lsS_plain]; exact ⟨by simp, fun x hx => by simp at hx⟩
      | note _ w a hw hN ha => rw [osT_note, lsS_note]; exact ⟨by simp, fun x hx => by simp at hx⟩
      | count _ a hN ha => rw [osT_note, lsS_note]; exact ⟨by simp, fun x hx => by simp at hx⟩
      | whl _ t b ht hl hb hl2 =>
        obtain ⟨b1, b2⟩ := ih.2 b [] hb (fun s h => by simp at h)
        have c1 := cts_len t []
        rw [osT_whl, lsS_whl]
        refine ⟨by unfold szL at b1; simp only [List.length_append, List.length_map, List.length_cons]; omega, fun x hx => ?_⟩
        rcases List.mem_append.mp hx with hx | hx
        · obtain ⟨t', ht', rfl⟩ := List.mem_map.mp hx
          obtain ⟨k1, k2⟩ := cts_ok t [] t' (fun s h => by simp at h) ht ht'
          exact ⟨.whl d t' b k1 (by rw [k2]; simpa using hl) hb hl2, by rw [lsS_whl]; simp⟩
        · obtain ⟨b', hb', rfl⟩ := List.mem_map.mp hx
          obtain ⟨k1, k2, k3⟩ := b2 b' hb'
          refine ⟨.whl d t b' ht hl k1 (by simp at k2; omega), ?_⟩
          rw [lsS_whl]; rw [szL_nil] at k3; unfold szL at k3; simp only [List.length_cons]; omega
      | iff _ t b c ht hl hb hl2 hc hl3 =>
        obtain ⟨b1, b2⟩ := ih.2 b [] hb (fun s h => by simp at h)
        obtain ⟨c1, c2⟩ := ih.2 c [] hc (fun s h => by simp at h)
        have e1 := cts_len t []
        rw [osT_if, lsS_if]
        refine ⟨by unfold szL at b1 c1; simp only [List.length_append, List.length_map, List.length_cons]; omega, fun x hx => ?_⟩
        rcases List.mem_append.mp hx with hx | hx
        · obtain ⟨t', ht', rfl⟩ := List.mem_map.mp hx
          obtain ⟨k1, k2⟩ := cts_ok t [] t' (fun s h => by simp at h) ht ht'
          exact ⟨.iff d t' b c k1 (by rw [k2]; simpa using hl) hb hl2 hc hl3, by rw [lsS_if]; simp⟩
        · rcases List.mem_append.mp hx with hx | hx
          · obtain ⟨b', hb', rfl⟩ := List.mem_map.mp hx
            obtain ⟨k1, k2, k3⟩ := b2 b' hb'
            refine ⟨.iff d t b' c ht hl k1 (by simp at k2; omega) hc hl3, ?_⟩
            rw [lsS_if]; rw [szL_nil] at k3; unfold szL at k3; simp only [List.length_cons, List.length_append]; omega
          · obtain ⟨c', hc', rfl⟩ := List.mem_map.mp hx
            obtain ⟨k1, k2, k3⟩ := c2 c' hc'
            refine ⟨.iff d t b c' ht hl hb hl2 k1 (by simp at k2; omega), ?_⟩
            rw [lsS_if]; rw [szL_nil] at k3; unfold szL at k3; simp only [List.length_cons, List.length_append]; omega
    exact ⟨S, L (d + 1) S⟩
/-! the law's are the same -/
def swP (pre : List T) : List T → List (List T)
  | [] => []
  | s :: r => swL pre s r
theorem swL_last (pre : List T) (y s : T) (r : List T) : swL (pre ++ [y]) s r = [pre ++ s :: y :: r] := by
  unfold swL
  rw [List.reverse_append]
  simp
theorem swP_sw (pre : List T) (s : T) (r : List T) : swP (pre ++ [s]) r = sw pre s r := by
  cases r with
  | nil => rfl
  | cons y q => exact swL_last pre s y q
theorem lc_ob (N : List (List Nat)) {m : Nat} : ∀ (d : Nat), (∀ s, Stm N m 9 d s → (lsT s).length = (osT s).length ∧ ∀ x, x ∈ lsT s ↔ x ∈ osT s) ∧
    (∀ l pre, (∀ s ∈ l, Stm N m 9 d s) → (lcA pre l).length = (obA pre l).length + (swP pre l).length ∧ ∀ x, x ∈ lcA pre l ↔ x ∈ obA pre l ∨ x ∈ swP pre l) := by
  intro d
  have L : ∀ d, (∀ s, Stm N m 9 d s → (lsT s).length = (osT s).length ∧ ∀ x, x ∈ lsT s ↔ x ∈ osT s) → ∀ l pre, (∀ s ∈ l, Stm N m 9 d s) → (lcA pre l).length = (obA pre l).length + (swP pre l).length ∧ ∀ x, x ∈ lcA pre l ↔ x ∈ obA pre l ∨ x ∈ swP pre l := by
    intro d S l
    induction l with
    | nil => intro pre _; rw [lcA_nil, obA_nil]; exact ⟨rfl, fun x => by simp [swP]⟩
    | cons s r ih =>
      intro pre hl
      obtain ⟨s1, s2⟩ := S s (hl s List.mem_cons_self)
      obtain ⟨i1, i2⟩ := ih (pre ++ [s]) fun y hy => hl y (List.mem_cons_of_mem _ hy)
      rw [swP_sw] at i1 i2
      rw [lcA_cons, obA_cons]
      refine ⟨?_, fun x => ?_⟩
      · show _ = _ + (swL pre s r).length
        simp only [List.length_cons, List.length_append, List.length_map]
        omega
      · show _ ↔ _ ∨ x ∈ swL pre s r
        have e : x ∈ (lsT s).map (fun x => pre ++ x :: r) ↔ x ∈ (osT s).map (fun x => pre ++ x :: r) := by
          constructor
          · intro h
            obtain ⟨z, hz, rfl⟩ := List.mem_map.mp h
            exact List.mem_map.mpr ⟨z, (s2 z).mp hz, rfl⟩
          · intro h
            obtain ⟨z, hz, rfl⟩ := List.mem_map.mp h
            exact List.mem_map.mpr ⟨z, (s2 z).mpr hz, rfl⟩
        simp only [List.mem_cons, List.mem_append, e, i2 x]
        constructor
        · rintro (h | h | h | h | h)
          · exact .inl (.inl h)
          · exact .inr h
          · exact .inl (.inr (.inl h))
          · exact .inl (.inr (.inr (.inr h)))
          · exact .inl (.inr (.inr (.inl h)))
        · rintro ((h | h | h | h) | h)
          · exact .inl h
          · exact .inr (.inr (.inl h))
          · exact .inr (.inr (.inr (.inr h)))
          · exact .inr (.inr (.inr (.inl h)))
          · exact .inr (.inl h)
  have mp : ∀ {α β : Type} {f : α → β} {l k : List α}, (∀ x, x ∈ l ↔ x ∈ k) → ∀ y, y ∈ l.map f ↔ y ∈ k.map f := fun h y => by
    constructor
    · intro z
      obtain ⟨x, hx, rfl⟩ := List.mem_map.mp z
      exact List.mem_map.mpr ⟨x, (h x).mp hx, rfl⟩
    · intro z
      obtain ⟨x, hx, rfl⟩ := List.mem_map.mp z
      exact List.mem_map.mpr ⟨x, (h x).mpr hx, rfl⟩
  induction d with
  | zero => exact ⟨(fun s h => nomatch h), L 0 (fun s h => nomatch h)⟩
  | succ d ih =>
    have B : ∀ b : List T, (∀ s ∈ b, Stm N m 9 d s) → (lcA [] b).length = (obA [] b).length ∧ ∀ x, x ∈ lcA [] b ↔ x ∈ obA [] b := fun b hb => by
      obtain ⟨h1, h2⟩ := ih.2 b [] hb
      have e : swP [] b = [] := by cases b <;> rfl
      rw [e] at h1 h2
      exact ⟨by simpa using h1, fun x => by rw [h2 x]; simp⟩
    have S : ∀ s, Stm N m 9 (d + 1) s → (lsT s).length = (osT s).length ∧ ∀ x, x ∈ lsT s ↔ x ∈ osT s := by
      intro s hs
      cases hs with
      | plain _ w hw => rw [osT_plain, lsT_plain]; exact ⟨rfl, fun x => Iff.rfl⟩
      | note _ w a hw hN ha => rw [osT_note, lsT_note]; exact ⟨rfl, fun x => Iff.rfl⟩
      | count _ a hN ha => rw [osT_note, lsT_note]; exact ⟨rfl, fun x => Iff.rfl⟩
      | whl _ t b ht hl hb hl2 =>
        obtain ⟨b1, b2⟩ := B b hb
        rw [osT_whl, lsT_whl]
        exact ⟨by simp only [List.length_append, List.length_map, b1], fun x => by rw [List.mem_append, List.mem_append, mp b2 x]⟩
      | iff _ t b c ht hl hb hl2 hc hl3 =>
        obtain ⟨b1, b2⟩ := B b hb
        obtain ⟨c1, c2⟩ := B c hc
        rw [osT_if, lsT_if]
        exact ⟨by simp only [List.length_append, List.length_map, b1, c1], fun x => by rw [List.mem_append, List.mem_append, List.mem_append, List.mem_append, mp b2 x, mp c2 x]⟩
    exact ⟨S, L (d + 1) S⟩
end ViLaw

set_option maxRecDepth 100000
set_option maxHeartbeats 4000000
set_option linter.all false
set_option autoImplicit false
namespace ViLaw
open Vi
/-! ### the program's single changes -/
theorem fact_tup {m : Nat} {B : Int} {g : T} (h : Fact m B g) : ∃ l, g = .tup l := by cases h <;> exact ⟨_, rfl⟩
theorem t_other_facts (n : Nat) {m : Nat} (f : T) (h : Fact m 9 f) : prog.tab (n + 2) 22 [f] = .ret (.lst true (cf f)) [none] := by
  refine Pe_ret ?_
  rw [tabs (n + 1) 22 d_other_facts _ rfl]
  cases h with
  | ahead =>
    simp! only [d_other_facts, wAhead]
    exact ⟨rfl, rfl⟩
  | «at» e c he hc =>
    simp! only [d_other_facts, wAt]
    exact ⟨rfl, rfl⟩
  | num w s i hw hs h0 h1 =>
    have e : (wSum == w || sSize == w) = true := by rcases hw with rfl | rfl <;> decide
    rw [cf_num e]
    have tn : ∀ k : Int, prog.tab (n + 1) 0 [.int (i + k), .int 0, .int 9] = .ret (.bl (inR (i + k))) [none, none, none] := fun k => t_is_number n (.int (i + k)) 0 9 1 rfl
    have sub1 : i - 1 = i + -1 := rfl
    rw [sub1]
    have go : ∀ (E : Env) (Q : List T → Env → Prop), E = [some (.tup [.str w, .str s, .int i]), none, none] → (∀ e, (∃ y, e = [some (.tup [.str w, .str s, .int i]), none, y]) → Q ((bif inR (i + -1) then [.tup [.str w, .str s, .int (i + -1)]] else []) ++ (bif inR (i + 1) then [.tup [.str w, .str s, .int (i + 1)]] else [])) e) →
        Pt Q (turns [2] (lcBody ⟨gl, prog.tab (n + 1)⟩ (.nm 2) (.cons (.call 0 (.val (.bin .add (.idx (.rd 0) (.cst (.int 2))) (.rd 2)) (.val (.cst (.int 0)) (.val (.cst (.int 9)) .nil)))) .nil) (.tup (.cons (.idx (.rd 0) (.cst (.int 0))) (.cons (.idx (.rd 0) (.cst (.int 1))) (.cons (.bin .add (.idx (.rd 0) (.cst (.int 2))) (.rd 2)) .nil))))) [.int (-1), .int 1] [] E) := by
      rintro E Q rfl hQ
      refine turns_f (fun e => ∃ y, e = [some (.tup [.str w, .str s, .int i]), none, y]) (fun x => match x with
        | .int k => bif inR (i + k) then some (.tup [.str w, .str s, .int (i + k)]) else none
        | _ => none) ⟨none, rfl⟩ (by show 2 ≤ 16777216; omega) (fun x hx e he => ?_) (fun e he => ?_)
      · obtain ⟨y, rfl⟩ := he
        obtain ⟨k, rfl⟩ : ∃ k : Int, x = .int k := by
          simp at hx; rcases hx with rfl | rfl <;> exact ⟨_, rfl⟩
        rcases bcase (inR (i + k)) with q | q
        · have tn' := tn k
          rw [q] at tn'
          simp! only [tn']
          exact ⟨by rw [q]; rfl, _, rfl⟩
        · have tn' := tn k
          rw [q] at tn'
          simp! only [tn']
          exact ⟨by rw [q]; rfl, _, rfl⟩
      · have := hQ e he
        have e2 : ([T.int (-1), T.int 1].filterMap fun x => match x with
          | .int k => bif inR (i + k) then some (T.tup [.str w, .str s, .int (i + k)]) else none
          | _ => none) = (bif inR (i + -1) then [.tup [.str w, .str s, .int (i + -1)]] else []) ++ (bif inR (i + 1) then [.tup [.str w, .str s, .int (i + 1)]] else []) := by
          simp only [List.filterMap_cons, List.filterMap_nil]
          cases inR (i + -1) <;> cases inR (i + 1) <;> rfl
        rw [e2]; exact this
    rcases hw with rfl | rfl <;> rcases hs with rfl | rfl
    all_goals
      simp! only [d_other_facts, wSum, sSize, wIs, wOver]
      refine go _ _ rfl ?_
      rintro e ⟨y, rfl⟩
      cases inR (i + -1) <;> cases inR (i + 1)
      all_goals
        simp! only [wSum, sSize, wIs, wOver]
        exact ⟨rfl, rfl⟩
/-- slices at a place -/
theorem atxB {α : Type} (a : List α) (x y : α) (b : List α) : atx (a ++ x :: y :: b) ((a.length : Int) + 1) = some y := by
  rw [show ((a.length : Int) + 1) = ((a.length + 1 : Nat) : Int) by omega, atx_at _ _ (by omega) (by simp; omega), Int.toNat_natCast]
  simp
theorem t_other_tests (n : Nat) {m : Nat} (l : List T) (h : ∀ x ∈ l, Test m 9 x) (hl : l.length ≤ 3) : prog.tab (n + 3) 23 [.tup l] = .ret (.lst true ((ctsA [] l).map .tup)) [none] := by
  refine Pe_ret ?_
  rw [tabs (n + 2) 23 d_other_tests _ rfl]
  simp! only [d_other_tests]
  have hlen := cts_len l []
  refine forL_p (fun rest e => ∃ (done r : List T) (acc : List (List T)) (y2 y3 y4 y5 : Option T), rest = enumT done.length r ∧ done ++ r = l ∧ e = [some (.tup l), some (.lst true (acc.map .tup)), y2, y3, y4, y5, none, none] ∧ acc ++ ctsA done r = ctsA [] l) _ _ ⟨[], l, [], _, _, _, _, rfl, rfl, rfl, rfl⟩ ?_ ?_
  · rintro x rest e ⟨done, r, acc, y2, y3, y4, y5, hr, hd, rfl, ha⟩
    cases r with
    | nil => cases hr
    | cons t r =>
      have hr : x :: rest = .tup [.int (done.length : Nat), t] :: enumT (done.length + 1) r := hr
      injection hr with hx hr1
      subst hx
      have ht := h t (by rw [← hd]; simp)
      subst hd
      obtain ⟨b, f, rfl, hf⟩ := ht
      rw [ctsA] at ha
      have hal := congrArg List.length ha
      simp only [List.length_append, List.length_map, List.length_cons] at hal hl hlen
      have e0 := t_other_facts n _ hf
      have c1 : cut (done ++ T.tup [.bl b, .tup f] :: r) none (some (done.length : Int)) = done := cutA done _
      have c2 : cut (done ++ T.tup [.bl b, .tup f] :: r) (some ((done.length : Int) + 1)) none = r := cutB done _ r
      have k1 : decide (done.length + 1 ≤ line) = true := dline (by omega)
      have k2 : decide (done.length + 1 + r.length ≤ line) = true := dline (by omega)
      have cfl := cf_len (.tup f)
      have k3 : decide (1 + (cf (.tup f)).length ≤ line) = true := dline (by omega)
      simp! only [e0]
      refine turns_2 (m := (cf (.tup f)).map fun g => .tup [.bl b, g]) (by show _ ≤ 16777216; omega) (A2.map fun g hg => by
        obtain ⟨gl', rfl⟩ := fact_tup (cf_ok hf hg)
        simp! only []
        exact ⟨rfl, rfl⟩) fun e he => ?_
      rw [he]
      rotate_left
      · rfl
      simp! only [k3, List.length_map]
      have hct : ct (.tup [.bl b, .tup f]) = .tup [.bl (!b), .tup f] :: (cf (.tup f)).map fun g => .tup [.bl b, g] := rfl
      rw [← hct]
      have hCl0 : (ct (.tup [.bl b, .tup f])).length ≤ 4 := by rw [hct]; simp; omega
      generalize hC : ct (.tup [.bl b, .tup f]) = C at *
      have hCl : C.length ≤ 4 := hCl0
      have hCt : ∀ x ∈ C, ∃ q, x = .tup q := fun x hx => by
        rw [← hC] at hx
        obtain ⟨b', f', rfl, _⟩ := ct_ok ⟨b, f, rfl, hf⟩ hx
        exact ⟨_, rfl⟩
      refine turns_2 (m := (C.map fun x => done ++ x :: r).map .tup) (by show _ ≤ 16777216; omega) (by
        rw [List.map_map]
        refine A2.map fun x hx => ?_
        obtain ⟨q, rfl⟩ := hCt x hx
        simp! only [c1, c2, k1, k2, List.length_append]
        exact ⟨by simp, rfl⟩) fun e he => ?_
      rw [he]
      rotate_left
      · rfl
      have k4 : decide (acc.length + C.length ≤ line) = true := dline (by omega)
      simp! only [k4, List.length_map]
      refine ⟨done ++ [.tup [.bl b, .tup f]], r, acc ++ C.map fun x => done ++ x :: r, _, _, _, _, ?_, by simp, by rw [List.map_append], by rw [List.append_assoc]; exact ha⟩
      rw [hr1, List.length_append]; rfl
  · rintro e ⟨done, r, acc, y2, y3, y4, y5, hr, hd, rfl, ha⟩
    have : r = [] := by cases r with
      | nil => rfl
      | cons _ _ => cases hr
    subst this
    rw [ctsA, List.append_nil] at ha
    subst ha
    simp! only []
    exact ⟨rfl, rfl⟩
theorem rng23 : rngT (.int 2) (.int 3) = some [.int 2] := rfl
theorem rng24 : rngT (.int 2) (.int 4) = some [.int 2, .int 3] := rfl
theorem t_other (N : List (List Nat)) {m : Nat} : ∀ (d : Nat), (∀ (n : Nat) (s : T), Stm N m 9 d s → (lsS s).length ≤ 20 → prog.tab (n + 2 * d + 4) 24 [s] = .ret (.lst true (osT s)) [none]) ∧
    (∀ (n : Nat) (l : List T), (∀ s ∈ l, Stm N m 9 d s) → l.length ≤ 8 → szL l ≤ 20 → prog.tab (n + 2 * d + 5) 25 [.tup l] = .ret (.lst true ((obA [] l).map .tup)) [none]) := by
  intro d
  have Bd : ∀ d, (∀ (n : Nat) (s : T), Stm N m 9 d s → (lsS s).length ≤ 20 → prog.tab (n + 2 * d + 4) 24 [s] = .ret (.lst true (osT s)) [none]) → ∀ (n : Nat) (l : List T), (∀ s ∈ l, Stm N m 9 d s) → l.length ≤ 8 → szL l ≤ 20 → prog.tab (n + 2 * d + 5) 25 [.tup l] = .ret (.lst true ((obA [] l).map .tup)) [none] := by
    intro d S n l h hl hz
    refine Pe_ret ?_
    rw [tabs (n + 2 * d + 4) 25 d_other_bodies _ rfl]
    simp! only [d_other_bodies]
    have hlen := ((ob_ok N d).2 l [] h (fun s h => by simp at h)).1
    refine forL_p (fun rest e => ∃ (done r : List T) (acc : List (List T)) (y2 y3 : Option T), rest = enumT done.length r ∧ done ++ r = l ∧ e = [some (.tup l), some (.lst true (acc.map .tup)), y2, y3, none] ∧ acc ++ obA done r = obA [] l) _ _ ⟨[], l, [], _, _, rfl, rfl, rfl, rfl⟩ ?_ ?_
    · rintro x rest e ⟨done, r, acc, y2, y3, hr, hd, rfl, ha⟩
      cases r with
      | nil => cases hr
      | cons s r =>
        have hr : x :: rest = .tup [.int (done.length : Nat), s] :: enumT (done.length + 1) r := hr
        injection hr with hx hr1
        subst hx
        have hs := h s (by rw [← hd]; simp)
        subst hd
        rw [szL_app, szL_cons] at hz
        have e0 := S n s hs (by omega)
        rw [obA_cons] at ha
        have hal := congrArg List.length ha
        simp only [List.length_append, List.length_cons, List.length_map] at hal hl hlen
        obtain ⟨w0, r0, rfl, _⟩ := hs.head
        have c1 : cut (done ++ T.tup (.str w0 :: r0) :: r) none (some (done.length : Int)) = done := cutA done _
        have c2 : cut (done ++ T.tup (.str w0 :: r0) :: r) (some ((done.length : Int) + 1)) none = r := cutB done _ r
        have k0 : decide (done.length + r.length ≤ line) = true := dline (by omega)
        have k1 : decide (done.length + 1 ≤ line) = true := dline (by omega)
        have k2 : decide (done.length + 1 + r.length ≤ line) = true := dline (by omega)
        rw [szL_app, szL_cons] at hlen
        have k3 : decide (acc.length + 1 ≤ line) = true := dline (by omega)
        generalize hs0 : T.tup (.str w0 :: r0) = s at *
        have so : Vi.own s = false := by rw [← hs0]; rfl
        have sf : fz s = s := by rw [← hs0]; rfl
        have hot : ∀ x ∈ osT s, ∃ q, x = .tup q := fun x hx => by
          obtain ⟨w, q, e, _⟩ := (((ob_ok N d).1 s hs).2 x hx).1.head
          exact ⟨_, e⟩
        have hol := ((ob_ok N d).1 s hs).1
        simp! only [c1, c2, k0, k3, e0, so, sf, List.length_map]
        refine turns_2 (m := ((osT s).map fun x => done ++ x :: r).map .tup) (by show _ ≤ 16777216; omega) (by
          rw [List.map_map]
          refine A2.map fun x hx => ?_
          obtain ⟨q, rfl⟩ := hot x hx
          simp! only [c1, c2, k1, k2, List.length_append]
          exact ⟨by simp, rfl⟩) fun e he => ?_
        rw [he]
        rotate_left
        · rfl
        have k4 : decide (acc.length + 1 + (osT s).length ≤ line) = true := dline (by omega)
        have k5 : decide (acc.length + 1 + (osT s).length + 1 ≤ line) = true := dline (by omega)
        cases r with
        | nil =>
          have lt : decide ((done.length : Int) + 1 < ((done.length + (0 + 1) : Nat) : Int)) = false := decide_eq_false (by omega)
          have lt' : decide ((done.length : Int) + 1 < ((done.length + 1 : Nat) : Int)) = false := decide_eq_false (by omega)
          simp! only [k4, lt, lt', List.length_map, List.length_append]
          refine ⟨done ++ [s], [], acc ++ (done ++ []) :: (osT s).map (fun x => done ++ x :: []), some (.int (done.length : Nat)), some s, ?_, by simp, by simp, ?_⟩
          · rw [hr1, List.length_append]; rfl
          · rw [List.append_assoc]; exact ha
        | cons y q =>
          have lt : decide ((done.length : Int) + 1 < ((done.length + (q.length + 1 + 1) : Nat) : Int)) = true := decide_eq_true (by omega)
          have g1 : atx (done ++ s :: y :: q) ((done.length : Int) + 1) = some y := atxB done s y q
          have g2 : cut (done ++ s :: y :: q) (some ((done.length : Int) + 2)) none = q := cutD done s (y :: q)
          have yo : fz y = y := by
            obtain ⟨w, q', e, _⟩ := (h y (by simp)).head
            rw [e]; rfl
          have k6 : decide (done.length + 2 ≤ line) = true := dline (by simp at hl; omega)
          have k7 : decide (done.length + 2 + q.length ≤ line) = true := dline (by simp at hl; omega)
          simp! only [k4, k5, lt, c1, g1, g2, yo, so, sf, k6, k7, List.length_map, List.length_append]
          refine ⟨done ++ [s], y :: q, acc ++ (done ++ y :: q) :: ((osT s).map (fun x => done ++ x :: y :: q) ++ [done ++ y :: s :: q]), some (.int (done.length : Nat)), some s, ?_, by simp, by simp, ?_⟩
          · rw [hr1, List.length_append]; rfl
          · rw [← ha]; simp [sw]
    · rintro e ⟨done, r, acc, y2, y3, hr, hd, rfl, ha⟩
      have : r = [] := by cases r with
        | nil => rfl
        | cons _ _ => cases hr
      subst this
      rw [obA_nil, List.append_nil] at ha
      subst ha
      simp! only []
      exact ⟨rfl, rfl⟩
  induction d with
  | zero => exact ⟨(fun n s h => nomatch h), Bd 0 (fun n s h => nomatch h)⟩
  | succ d ih =>
    have S : ∀ (n : Nat) (s : T), Stm N m 9 (d + 1) s → (lsS s).length ≤ 20 → prog.tab (n + 2 * (d + 1) + 4) 24 [s] = .ret (.lst true (osT s)) [none] := by
      intro n s hs hz
      refine Pe_ret ?_
      rw [tabs (n + 2 * (d + 1) + 3) 24 d_other_statements _ rfl]
      cases hs with
      | plain _ w hw =>
        rw [osT_plain]
        rcases hw with rfl | rfl | rfl | rfl | rfl
        all_goals
          simp! only [d_other_statements, wAdd, wTake, wRight, wLeft, wStop]
          exact ⟨rfl, rfl⟩
      | note _ w a hw hN ha =>
        rw [osT_note]
        rcases hw with rfl | rfl
        all_goals
          simp! only [d_other_statements, sMost, sLeast]
          exact ⟨rfl, rfl⟩
      | count _ a hN ha =>
        rw [osT_note]
        simp! only [d_other_statements, wCount]
        exact ⟨rfl, rfl⟩
      | whl _ t b ht hl hb hl2 =>
        rw [lsS_whl] at hz
        simp only [List.length_cons] at hz
        have hzb : szL b ≤ 20 := by unfold szL; omega
        have e0 : prog.tab (n + 2 * (d + 1) + 3) 23 [.tup t] = _ := t_other_tests (n + 2 * (d + 1)) t ht hl
        have e1 : prog.tab (n + 2 * (d + 1) + 3) 25 [.tup b] = _ := ih.2 n b hb hl2 hzb
        have c1 := cts_len t []
        have c2 := ((ob_ok N d).2 b [] hb (fun s h => by simp at h)).1
        rw [osT_whl]
        simp! only [d_other_statements, wWhile, e0]
        refine turns_2 (m := (ctsA [] t).map fun t' => .tup [.str [119, 104, 105, 108, 101], .tup t', .tup b]) (by rw [List.length_map]; show _ ≤ 16777216; omega) (by
          refine A2.lmap (A2.map fun x hx => ?_)
          simp! only []
          exact ⟨rfl, rfl⟩) fun e he => ?_
        rw [he]
        rotate_left
        · rfl
        simp! only [rng23, e1]
        refine turns_2 (m := (obA [] b).map fun b' => .tup [.str [119, 104, 105, 108, 101], .tup t, .tup b']) (by rw [List.length_map]; show _ ≤ 16777216; omega) (by
          refine A2.lmap (A2.map fun x hx => ?_)
          simp! only []
          exact ⟨rfl, rfl⟩) fun e he => ?_
        rw [he]
        rotate_left
        · rfl
        have k1 : decide ((ctsA [] t).length + (obA [] b).length ≤ line) = true := dline (by omega)
        simp! only [k1, List.length_map]
        exact ⟨rfl, rfl⟩
      | iff _ t b c ht hl hb hl2 hc hl3 =>
        rw [lsS_if] at hz
        simp only [List.length_cons, List.length_append] at hz
        have hzb : szL b ≤ 20 := by unfold szL; omega
        have hzc : szL c ≤ 20 := by unfold szL; omega
        have e0 : prog.tab (n + 2 * (d + 1) + 3) 23 [.tup t] = _ := t_other_tests (n + 2 * (d + 1)) t ht hl
        have e1 : prog.tab (n + 2 * (d + 1) + 3) 25 [.tup b] = _ := ih.2 n b hb hl2 hzb
        have e2 : prog.tab (n + 2 * (d + 1) + 3) 25 [.tup c] = _ := ih.2 n c hc hl3 hzc
        have c1 := cts_len t []
        have c2 := ((ob_ok N d).2 b [] hb (fun s h => by simp at h)).1
        have c3 := ((ob_ok N d).2 c [] hc (fun s h => by simp at h)).1
        rw [osT_if]
        simp! only [d_other_statements, wIf, e0]
        refine turns_2 (m := (ctsA [] t).map fun t' => .tup [.str [105, 102], .tup t', .tup b, .tup c]) (by rw [List.length_map]; show _ ≤ 16777216; omega) (by
          refine A2.lmap (A2.map fun x hx => ?_)
          simp! only []
          exact ⟨rfl, rfl⟩) fun e he => ?_
        rw [he]
        rotate_left
        · rfl
        simp! only [rng24, e1, e2]
        refine turns_2 (m := (obA [] b).map fun b' => .tup [.str [105, 102], .tup t, .tup b', .tup c]) (by rw [List.length_map]; show _ ≤ 16777216; omega) (by
          refine A2.lmap (A2.map fun x hx => ?_)
          simp! only []
          exact ⟨rfl, rfl⟩) fun e he => ?_
        rw [he]
        rotate_left
        · rfl
        have k1 : decide ((ctsA [] t).length + (obA [] b).length ≤ line) = true := dline (by omega)
        simp! only [k1, e1, e2, List.length_map]
        refine turns_2 (m := (obA [] c).map fun c' => .tup [.str [105, 102], .tup t, .tup b, .tup c']) (by rw [List.length_map]; show _ ≤ 16777216; omega) (by
          refine A2.lmap (A2.map fun x hx => ?_)
          simp! only []
          exact ⟨rfl, rfl⟩) fun e he => ?_
        rw [he]
        rotate_left
        · rfl
        have k2 : decide ((ctsA [] t).length + (obA [] b).length + (obA [] c).length ≤ line) = true := dline (by omega)
        simp! only [k2, List.length_map, List.length_append]
        exact ⟨by rw [List.append_assoc]; rfl, rfl⟩
    exact ⟨S, Bd (d + 1) S⟩
end ViLaw

set_option maxRecDepth 100000
set_option maxHeartbeats 4000000
set_option linter.all false
set_option autoImplicit false
namespace ViLaw
open Vi
/-! ### the law's single changes -/
theorem u_facts (n : Nat) {m : Nat} (f : T) (h : Fact m 9 f) : prog.tab (n + 1) 44 [f] = .ret (.lst true (cf f)) [none] := by
  refine Pe_ret ?_
  rw [tabs n 44 l_facts _ rfl]
  cases h with
  | ahead =>
    simp! only [l_facts, wAhead]
    exact ⟨rfl, rfl⟩
  | «at» e c he hc =>
    simp! only [l_facts, wAt]
    exact ⟨rfl, rfl⟩
  | num w s i hw hs h0 h1 =>
    have e : (wSum == w || sSize == w) = true := by rcases hw with rfl | rfl <;> decide
    rw [cf_num e]
    have go : ∀ (E : Env) (Q : List T → Env → Prop), E = [some (.tup [.str w, .str s, .int i]), none, none] → (∀ e, (∃ y, e = [some (.tup [.str w, .str s, .int i]), none, y]) → Q ((bif inR (i - 1) then [.tup [.str w, .str s, .int (i - 1)]] else []) ++ (bif inR (i + 1) then [.tup [.str w, .str s, .int (i + 1)]] else [])) e) →
        Pt Q (turns [2] (lcBody ⟨gl, prog.tab n⟩ (.nm 2) (.cons (.chn .le .le (.cst (.int 0)) (.rd 2) (.cst (.int 9))) .nil) (.bin .add (.sli (.rd 0) .non (.som (.cst (.int 2)))) (.tup (.cons (.var 2) .nil)))) [.int (i - 1), .int (i + 1)] [] E) := by
      rintro E Q rfl hQ
      refine turns_f (fun e => ∃ y, e = [some (.tup [.str w, .str s, .int i]), none, y]) (fun x => match x with
        | .int k => bif inR k then some (.tup [.str w, .str s, .int k]) else none
        | _ => none) ⟨none, rfl⟩ (by show 2 ≤ 16777216; omega) (fun x hx e he => ?_) (fun e he => ?_)
      · obtain ⟨y, rfl⟩ := he
        obtain ⟨k, rfl⟩ : ∃ k : Int, x = .int k := by
          simp at hx; rcases hx with rfl | rfl <;> exact ⟨_, rfl⟩
        rcases bcase (decide ((0 : Int) ≤ k)) with q1 | q1
        · rcases bcase (decide (k ≤ (9 : Int))) with q2 | q2
          · have q : inR k = true := by unfold inR; rw [q1, q2]; rfl
            simp! only [q1, q2]
            exact ⟨by rw [q]; rfl, _, rfl⟩
          · have q : inR k = false := by unfold inR; rw [q1, q2]; rfl
            simp! only [q1, q2]
            exact ⟨by rw [q]; rfl, _, rfl⟩
        · have q : inR k = false := by unfold inR; rw [q1]; rfl
          simp! only [q1]
          exact ⟨by rw [q]; rfl, _, rfl⟩
      · have := hQ e he
        have e2 : ([T.int (i - 1), T.int (i + 1)].filterMap fun x => match x with
          | .int k => bif inR k then some (T.tup [.str w, .str s, .int k]) else none
          | _ => none) = (bif inR (i - 1) then [.tup [.str w, .str s, .int (i - 1)]] else []) ++ (bif inR (i + 1) then [.tup [.str w, .str s, .int (i + 1)]] else []) := by
          simp only [List.filterMap_cons, List.filterMap_nil]
          cases inR (i - 1) <;> cases inR (i + 1) <;> rfl
        rw [e2]; exact this
    rcases hw with rfl | rfl <;> rcases hs with rfl | rfl
    all_goals
      simp! only [l_facts, wSum, sSize, wIs, wOver]
      refine go _ _ rfl ?_
      rintro e ⟨y, rfl⟩
      cases inR (i - 1) <;> cases inR (i + 1)
      all_goals
        simp! only [wSum, sSize, wIs, wOver]
        exact ⟨rfl, rfl⟩
def lcE (l found : T) (at' st some' spot test inner wanted fact tests : Option T) : Env := [some l, some found, at', st, some', spot, test, inner, wanted, fact, tests, none]
def chB : Ss := match l_changed.body with | .cons _ (.cons (.for _ _ b) _) => b | _ => .nil
/-- the changes of tests, within the law's loop -/
def chT : Ss := match chB with | .cons _ (.cons _ (.cons _ (.cons (.ifs _ (.cons (.for _ _ b) _) _) _))) => b | _ => .nil
def chI : Ss := match chB with | .cons _ (.cons _ (.cons _ (.cons (.ifs _ (.cons _ (.cons (.for _ _ b) _)) _) _))) => b | _ => .nil
theorem u_tests (n : Nat) {m : Nat} (l : T) (found : List T) (x2 : T) (w : List Nat) (t rest : List T) (ht : ∀ x ∈ t, Test m 9 x) (htl : t.length ≤ 3) (hrl : rest.length ≤ 10) (y5 y6 y7 y8 y9 y10 : Option T) (Q : Fl → Env → Prop)
    (hQ : ∀ y5 y6 y7 y8 y9 y10, Q .nx (lcE l (.lst true found) (some x2) (some (.tup (.str w :: .tup t :: rest))) (some (.lst true ((ctsA [] t).map fun t' => .tup (.str w :: .tup t' :: rest)))) y5 y6 y7 y8 y9 y10)) :
    Pt Q (forL (asg (.tp (.cons (.nm 5) (.cons (.tp (.cons (.nm 8) (.cons (.nm 9) .nil))) .nil)))) (exs ⟨gl, prog.tab (n + 1)⟩ chT) (enumT 0 t) (lcE l (.lst true found) (some x2) (some (.tup (.str w :: .tup t :: rest))) (some (.lst true [])) y5 y6 y7 y8 y9 y10)) := by
  have hlen := cts_len t []
  refine forL_p (fun rs e => ∃ (done r : List T) (acc : List (List T)) (y5 y6 y7 y8 y9 y10 : Option T), rs = enumT done.length r ∧ done ++ r = t ∧ e = lcE l (.lst true found) (some x2) (some (.tup (.str w :: .tup t :: rest))) (some (.lst true (acc.map fun t' => .tup (.str w :: .tup t' :: rest)))) y5 y6 y7 y8 y9 y10 ∧ acc ++ ctsA done r = ctsA [] t) _ _ ⟨[], t, [], _, _, _, _, _, _, rfl, rfl, rfl, rfl⟩ ?_ ?_
  · rintro x rs e ⟨done, r, acc, y5, y6, y7, y8, y9, y10, hr, hd, rfl, ha⟩
    cases r with
    | nil => cases hr
    | cons te r =>
      have hr : x :: rs = .tup [.int (done.length : Nat), te] :: enumT (done.length + 1) r := hr
      injection hr with hx hr1
      subst hx
      have hte := ht te (by rw [← hd]; simp)
      obtain ⟨b, f, rfl, hf⟩ := hte
      have e0 := u_facts n _ hf
      rw [ctsA] at ha
      have hal := congrArg List.length ha
      have htl2 := congrArg List.length hd
      simp only [List.length_append, List.length_map, List.length_cons] at hal htl2
      have cfl := cf_len (.tup f)
      have k3 : decide (1 + (cf (.tup f)).length ≤ line) = true := dline (by omega)
      have c1 : cut t none (some (done.length : Int)) = done := by rw [← hd]; exact cutA done _
      have c2 : cut t (some ((done.length : Int) + 1)) none = r := by rw [← hd]; exact cutB done _ r
      have k1 : decide (done.length + 1 ≤ line) = true := dline (by omega)
      have k2 : decide (done.length + 1 + r.length ≤ line) = true := dline (by omega)
      unfold lcE
      simp! only [chT, chB, l_changed, e0]
      refine turns_2 (m := (cf (.tup f)).map fun g => .tup [.bl b, g]) (by show _ ≤ 16777216; omega) (A2.map fun g hg => by
        obtain ⟨gl', rfl⟩ := fact_tup (cf_ok hf hg)
        simp! only []
        exact ⟨rfl, rfl⟩) fun e he => ?_
      rw [he]
      rotate_left
      · rfl
      have hct : (T.tup [.bl (!b), .tup f] :: (cf (.tup f)).map fun g => T.tup [.bl b, g]) = ct (.tup [.bl b, .tup f]) := rfl
      have hCl0 : (ct (.tup [.bl b, .tup f])).length ≤ 4 := by rw [← hct]; simp; omega
      have hCt : ∀ x ∈ ct (.tup [.bl b, .tup f]), ∃ q, x = .tup q := fun x hx => by
        obtain ⟨b', f', rfl, _⟩ := ct_ok ⟨b, f, rfl, hf⟩ hx
        exact ⟨_, rfl⟩
      generalize hC : ct (.tup [.bl b, .tup f]) = C at *
      simp! only [k3, hct, List.length_map]
      refine forL_p (fun cs e => ∃ (cd : List T) (y6 y10 : Option T), e = lcE l (.lst true found) (some x2) (some (.tup (.str w :: .tup t :: rest))) (some (.lst true ((acc ++ cd.map fun x => done ++ x :: r).map fun t' => .tup (.str w :: .tup t' :: rest)))) (some (.int (done.length : Nat))) y6 y7 (some (.bl b)) (some (.tup f)) y10 ∧ cd ++ cs = C) _ _ ⟨[], _, _, by rw [List.map_nil, List.append_nil]; rfl, rfl⟩ ?_ ?_
      · rintro x cs e ⟨cd, y6, y10, rfl, hcd⟩
        obtain ⟨q, rfl⟩ := hCt x (by rw [← hcd]; simp)
        have hcl := congrArg List.length hcd
        simp only [List.length_append, List.length_cons] at hcl
        have k5 : decide (acc.length + cd.length < line) = true := by rw [decide_eq_true_eq]; show _ < 16777216; omega
        have k6 : decide (2 + rest.length ≤ line) = true := dline (by omega)
        unfold lcE
        simp! only [c1, c2, k1, k2, k5, k6, List.length_append, List.length_map]
        refine ⟨cd ++ [.tup q], some (.tup q), some (.tup (done ++ .tup q :: r)), ?_, by rw [List.append_assoc]; exact hcd⟩
        simp
      · rintro e ⟨cd, y6, y10, rfl, hcd⟩
        rw [List.append_nil] at hcd
        subst hcd
        unfold lcE
        simp! only []
        refine ⟨done ++ [.tup [.bl b, .tup f]], r, acc ++ cd.map fun x => done ++ x :: r, _, _, _, _, _, _, ?_, by rw [List.append_assoc]; exact hd, rfl, by rw [List.append_assoc]; exact ha⟩
        rw [hr1, List.length_append]; rfl
  · rintro e ⟨done, r, acc, y5, y6, y7, y8, y9, y10, hr, hd, rfl, ha⟩
    have : r = [] := by cases r with
      | nil => rfl
      | cons _ _ => cases hr
    subst this
    rw [ctsA, List.append_nil] at ha
    subst ha
    exact hQ _ _ _ _ _ _
/-- the changes of one inner body, within the law's loop -/
theorem u_inner (n : Nat) (l : T) (found : List T) (x2 st0 : T) (S acc : List T) (pre post : List T) (x5 : Int) (hst : st0 = .tup S) (L : List (List T)) (hL : L.length ≤ 1000) (ha : acc.length ≤ 1000) (hp : pre.length ≤ 10) (hq : post.length ≤ 10)
    (c1 : cut S none (some x5) = pre) (c2 : cut S (some (x5 + 1)) none = post) (y6 y7 y8 y9 y10 : Option T) (Q : Fl → Env → Prop)
    (hQ : ∀ y7, Q .nx (lcE l (.lst true found) (some x2) (some st0) (some (.lst true (acc ++ L.map fun b' => .tup (pre ++ .tup b' :: post)))) (some (.int x5)) y6 y7 y8 y9 y10)) (innerS : Ss) (hi : innerS = (match chI with | .cons (.for _ _ b) _ => b | _ => .nil)) :
    Pt Q (forL (asg (.nm 7)) (exs ⟨gl, prog.tab n⟩ innerS) (L.map .tup) (lcE l (.lst true found) (some x2) (some st0) (some (.lst true acc)) (some (.int x5)) y6 y7 y8 y9 y10)) := by
  subst hi hst
  refine forL_p (fun ls e => ∃ (ld lr : List (List T)) (y7 : Option T), ls = lr.map .tup ∧ ld ++ lr = L ∧ e = lcE l (.lst true found) (some x2) (some (.tup S)) (some (.lst true (acc ++ ld.map fun b' => .tup (pre ++ .tup b' :: post)))) (some (.int x5)) y6 y7 y8 y9 y10) _ _ ⟨[], L, y7, rfl, rfl, by simp⟩ ?_ ?_
  · rintro x ls e ⟨ld, lr, y7, h1, h2, rfl⟩
    cases lr with
    | nil => cases h1
    | cons b' lr =>
      have h1 : x :: ls = .tup b' :: lr.map .tup := h1
      injection h1 with hx h3
      subst hx
      have hl := congrArg List.length h2
      simp only [List.length_append, List.length_cons] at hl
      have k1 : decide (pre.length + 1 ≤ line) = true := dline (by omega)
      have k2 : decide (pre.length + 1 + post.length ≤ line) = true := dline (by omega)
      have k3 : decide (acc.length + ld.length < line) = true := by rw [decide_eq_true_eq]; show _ < 16777216; omega
      unfold lcE
      simp! only [chI, chB, l_changed, c1, c2, k1, k2, k3, List.length_append, List.length_map]
      refine ⟨ld ++ [b'], lr, some (.tup b'), h3, by rw [List.append_assoc]; exact h2, ?_⟩
      simp
  · rintro e ⟨ld, lr, y7, h1, h2, rfl⟩
    have : lr = [] := by cases lr with
      | nil => rfl
      | cons _ _ => cases h1
    subst this
    rw [List.append_nil] at h2
    subst h2
    exact hQ _
def chR : Ss := match chB with | .cons _ (.cons _ r) => r | _ => .nil
theorem u_some (N : List (List Nat)) {m d n : Nat} (ih : ∀ (l : List T), (∀ s ∈ l, Stm N m 9 d s) → l.length ≤ 8 → szL l ≤ 20 → prog.tab (n + 2) 45 [.tup l] = .ret (.lst true ((lcA [] l).map .tup)) [none])
    (l done r : List T) (s : T) (hs : Stm N m 9 (d + 1) s) (hz : (lsS s).length ≤ 20) (hdr : done.length + r.length ≤ 10) (c1 : cut l none (some (done.length : Int)) = done) (c2 : cut l (some ((done.length : Int) + 1)) none = r) (F : List (List T)) (hF : F.length + (lsT s).length ≤ 1000)
    (y4 y5 y6 y7 y8 y9 y10 : Option T) (G : Fl → Env → Prop)
    (hG : ∀ y4 y5 y6 y7 y8 y9 y10, G .nx (lcE (.tup l) (.lst true ((F ++ (lsT s).map (fun x => done ++ x :: r)).map .tup)) (some (.int (done.length : Nat))) (some s) y4 y5 y6 y7 y8 y9 y10)) :
    Pt G (exs ⟨gl, prog.tab (n + 2)⟩ chR (lcE (.tup l) (.lst true (F.map .tup)) (some (.int (done.length : Nat))) (some s) y4 y5 y6 y7 y8 y9 y10)) := by
  have k1 : decide (done.length + 1 ≤ line) = true := dline (by omega)
  have k2 : decide (done.length + 1 + r.length ≤ line) = true := dline (by omega)
  have hlt : ∀ x ∈ lsT s, ∃ q, x = .tup q := fun x hx => by
    obtain ⟨w, q, e, _⟩ := (((ob_ok N (d + 1)).1 s hs).2 x ((((lc_ob N (d + 1)).1 s hs).2 x).mp hx)).1.head
    exact ⟨_, e⟩
  have kf : decide (F.length + (lsT s).length ≤ line) = true := dline (by omega)
  -- the last statement
  have last : ∀ (y5 y6 y7 y8 y9 y10 : Option T), Pt G (exs ⟨gl, prog.tab (n + 2)⟩ (match chR with | .cons _ (.cons _ r) => r | _ => .nil) (lcE (.tup l) (.lst true (F.map .tup)) (some (.int (done.length : Nat))) (some s) (some (.lst true (lsT s))) y5 y6 y7 y8 y9 y10)) := by
    intro y5 y6 y7 y8 y9 y10
    unfold lcE
    simp! only [chR, chB, l_changed]
    refine turns_2 (m := ((lsT s).map fun x => done ++ x :: r).map .tup) (by show _ ≤ 16777216; omega) (by
      rw [List.map_map]
      refine A2.map fun x hx => ?_
      obtain ⟨q, rfl⟩ := hlt x hx
      simp! only [c1, c2, k1, k2, List.length_append]
      exact ⟨by simp, rfl⟩) fun e he => ?_
    rw [he]
    rotate_left
    · rfl
    simp! only [kf, List.length_map]
    have := hG (some (.lst false (lsT s))) y5 y6 y7 y8 y9 y10
    unfold lcE at this
    rw [List.map_append] at this
    exact this
  rw [show chR = .cons _ (.cons _ (match chR with | .cons _ (.cons _ r) => r | _ => .nil)) from rfl]
  cases hs with
  | plain _ w hw =>
    rw [lsT_plain] at last
    rcases hw with rfl | rfl | rfl | rfl | rfl
    all_goals
      unfold lcE at *
      simp! only [wAdd, wTake, wRight, wLeft, wStop]
      exact last _ _ _ _ _ _
  | note _ w a hw hN ha =>
    rw [lsT_note] at last
    rcases hw with rfl | rfl
    all_goals
      unfold lcE at *
      simp! only [sMost, sLeast]
      exact last _ _ _ _ _ _
  | count _ a hN ha =>
    rw [lsT_note] at last
    unfold lcE at *
    simp! only [wCount]
    exact last _ _ _ _ _ _
  | whl _ t b ht hl hb hl2 =>
    rw [lsS_whl] at hz
    simp only [List.length_cons] at hz
    have hzb : szL b ≤ 20 := by unfold szL; omega
    have e1 := ih b hb hl2 hzb
    have q1 := cts_len t []
    have q2 := ((ob_ok N d).2 b [] hb (fun s h => by simp at h)).1
    have q3 := ((lc_ob N d).2 b [] hb).1
    have swp : (swP [] b).length = 0 := by cases b <;> rfl
    rw [lsT_whl] at last
    unfold lcE
    simp! only [wWhile]
    refine u_tests (n + 1) (.tup l) (F.map .tup) (.int (done.length : Nat)) wWhile t [.tup b] ht hl (by simp) _ _ _ _ _ _ _ fun y5 y6 y7 y8 y9 y10 => ?_
    unfold lcE wWhile
    simp! only [rng23, e1]
    refine u_inner (n + 2) (.tup l) (F.map .tup) (.int (done.length : Nat)) _ [.str [119, 104, 105, 108, 101], .tup t, .tup b] ((ctsA [] t).map fun t' => .tup [.str [119, 104, 105, 108, 101], .tup t', .tup b]) [.str [119, 104, 105, 108, 101], .tup t] [] 2 rfl (lcA [] b) (by omega) (by rw [List.length_map]; omega) (by simp) (by simp) rfl rfl _ _ _ _ _ _ (fun y7 => ?_) _ rfl
    unfold lcE
    simp! only []
    have := last (some (.int 2)) y6 y7 y8 y9 y10
    unfold lcE at this
    exact this
  | iff _ t b c ht hl hb hl2 hc hl3 =>
    rw [lsS_if] at hz
    simp only [List.length_cons, List.length_append] at hz
    have hzb : szL b ≤ 20 := by unfold szL; omega
    have hzc : szL c ≤ 20 := by unfold szL; omega
    have e1 := ih b hb hl2 hzb
    have e2 := ih c hc hl3 hzc
    have q1 := cts_len t []
    have q2 := ((ob_ok N d).2 b [] hb (fun s h => by simp at h)).1
    have q3 := ((lc_ob N d).2 b [] hb).1
    have q4 := ((ob_ok N d).2 c [] hc (fun s h => by simp at h)).1
    have q5 := ((lc_ob N d).2 c [] hc).1
    have swp : (swP [] b).length = 0 := by cases b <;> rfl
    have swp2 : (swP [] c).length = 0 := by cases c <;> rfl
    rw [lsT_if] at last
    unfold lcE
    simp! only [wIf]
    refine u_tests (n + 1) (.tup l) (F.map .tup) (.int (done.length : Nat)) wIf t [.tup b, .tup c] ht hl (by simp) _ _ _ _ _ _ _ fun y5 y6 y7 y8 y9 y10 => ?_
    unfold lcE wIf
    simp! only [rng24, e1, e2]
    refine u_inner (n + 2) (.tup l) (F.map .tup) (.int (done.length : Nat)) _ [.str [105, 102], .tup t, .tup b, .tup c] ((ctsA [] t).map fun t' => .tup [.str [105, 102], .tup t', .tup b, .tup c]) [.str [105, 102], .tup t] [.tup c] 2 rfl (lcA [] b) (by omega) (by rw [List.length_map]; omega) (by simp) (by simp) rfl rfl _ _ _ _ _ _ (fun y7 => ?_) _ rfl
    unfold lcE
    simp! only [e1, e2]
    refine u_inner (n + 2) (.tup l) (F.map .tup) (.int (done.length : Nat)) _ [.str [105, 102], .tup t, .tup b, .tup c] (((ctsA [] t).map fun t' => .tup [.str [105, 102], .tup t', .tup b, .tup c]) ++ (lcA [] b).map fun b' => .tup [.str [105, 102], .tup t, .tup b', .tup c]) [.str [105, 102], .tup t, .tup b] [] 3 rfl (lcA [] c) (by omega) (by rw [List.length_append, List.length_map, List.length_map]; omega) (by simp) (by simp) rfl rfl _ _ _ _ _ _ (fun y7 => ?_) _ rfl
    unfold lcE
    simp! only []
    have := last (some (.int 3)) y6 y7 y8 y9 y10
    unfold lcE at this
    rw [← List.append_assoc] at this
    exact this
theorem u_changed (N : List (List Nat)) {m : Nat} : ∀ (d : Nat), ∀ (n : Nat) (l : List T), (∀ s ∈ l, Stm N m 9 d s) → l.length ≤ 8 → szL l ≤ 20 → prog.tab (n + d + 2) 45 [.tup l] = .ret (.lst true ((lcA [] l).map .tup)) [none] := by
  intro d
  induction d with
  | zero =>
    intro n l h hl hz
    have e : l = [] := by
      cases l with
      | nil => rfl
      | cons x l => exact nomatch h x List.mem_cons_self
    subst e
    refine Pe_ret ?_
    rw [tabs _ 45 l_changed _ rfl]
    rw [lcA_nil]
    simp! only [l_changed, enumT]
    exact ⟨rfl, rfl⟩
  | succ d ih =>
    intro n l h hl hz
    refine Pe_ret ?_
    rw [show n + (d + 1) + 2 = (n + d + 2) + 1 by omega, tabs (n + d + 2) 45 l_changed _ rfl, show l_changed = ⟨_, _, _, _, .cons _ (.cons (.for _ _ chB) (.cons _ .nil))⟩ from rfl]
    simp! only []
    have hob := ((ob_ok N (d + 1)).2 l [] h (fun s h => by simp at h)).1
    have hlo := ((lc_ob N (d + 1)).2 l [] h).1
    have swp : (swP [] l).length = 0 := by cases l <;> rfl
    refine forL_p (fun rest e => ∃ (done r : List T) (acc : List (List T)) (y2 y3 y4 y5 y6 y7 y8 y9 y10 : Option T), rest = enumT done.length r ∧ done ++ r = l ∧ e = lcE (.tup l) (.lst true (acc.map .tup)) y2 y3 y4 y5 y6 y7 y8 y9 y10 ∧ acc ++ lcA done r = lcA [] l) _ _ ⟨[], l, [], _, _, _, _, _, _, _, _, _, rfl, rfl, rfl, rfl⟩ ?_ ?_
    · rintro x rest e ⟨done, r, acc, y2, y3, y4, y5, y6, y7, y8, y9, y10, hr, hd, rfl, ha⟩
      cases r with
      | nil => cases hr
      | cons s r =>
        have hr : x :: rest = .tup [.int (done.length : Nat), s] :: enumT (done.length + 1) r := hr
        injection hr with hx hr1
        subst hx
        have hs := h s (by rw [← hd]; simp)
        have hz2 : szL done + ((lsS s).length + szL r) ≤ 20 := by rw [← hd, szL_app, szL_cons] at hz; exact hz
        have hl2 := congrArg List.length hd
        rw [lcA_cons] at ha
        have hal := congrArg List.length ha
        simp only [List.length_append, List.length_cons, List.length_map] at hal hl2
        have c1 : cut l none (some (done.length : Int)) = done := by rw [← hd]; exact cutA done _
        have c2 : cut l (some ((done.length : Int) + 1)) none = r := by rw [← hd]; exact cutB done _ r
        have k0 : decide (done.length + r.length ≤ line) = true := dline (by omega)
        have k3 : decide (acc.length < line) = true := by rw [decide_eq_true_eq]; show _ < 16777216; omega
        have k3' : decide (acc.length + 1 < line) = true := by rw [decide_eq_true_eq]; show _ < 16777216; omega
        obtain ⟨w0, r0, es, _⟩ := hs.head
        have so : Vi.own s = false := by rw [es]; rfl
        have sf : fz s = s := by rw [es]; rfl
        have fin : ∀ (F : List (List T)) (y4 y5 y6 y7 y8 y9 y10 : Option T), F ++ ((lsT s).map (fun x => done ++ x :: r) ++ lcA (done ++ [s]) r) = lcA [] l → ∃ (done' r' : List T) (acc : List (List T)) (y2 y3 z4 z5 z6 z7 z8 z9 z10 : Option T), rest = enumT done'.length r' ∧ done' ++ r' = l ∧ lcE (.tup l) (.lst true ((F ++ (lsT s).map (fun x => done ++ x :: r)).map .tup)) (some (.int (done.length : Nat))) (some s) y4 y5 y6 y7 y8 y9 y10 = lcE (.tup l) (.lst true (acc.map .tup)) y2 y3 z4 z5 z6 z7 z8 z9 z10 ∧ acc ++ lcA done' r' = lcA [] l := by
          intro F y4 y5 y6 y7 y8 y9 y10 hh
          refine ⟨done ++ [s], r, _, _, _, _, _, _, _, _, _, _, ?_, by rw [List.append_assoc]; exact hd, rfl, by rw [List.append_assoc]; exact hh⟩
          rw [hr1, List.length_append]; rfl
        have go := u_some N (n := n + d) (fun l h1 h2 h3 => ih n l h1 h2 h3) l done r s hs (by omega) (by omega) c1 c2
        rw [show chB = .cons _ (.cons _ chR) from rfl]
        unfold lcE
        cases hdn : done.reverse with
        | nil =>
          have hd0 : done = [] := by simpa using hdn
          have e0 : swL done s r = [] := by rw [hd0]; rfl
          rw [e0] at ha hal
          have pos : decide ((0 : Int) < (done.length : Int)) = false := by rw [hd0]; rfl
          simp! only [c1, c2, k0, k3, so, sf, pos, List.length_map, List.length_append]
          rw [show acc.map T.tup ++ [T.tup (done ++ r)] = (acc ++ [done ++ r]).map T.tup by simp]
          exact go (acc ++ [done ++ r]) (by simp at hal ⊢; omega) y4 y5 y6 y7 y8 y9 y10 _ fun y4 y5 y6 y7 y8 y9 y10 => fin (acc ++ [done ++ r]) y4 y5 y6 y7 y8 y9 y10 (by rw [List.append_assoc]; exact ha)
        | cons y p =>
          have hdy : done = p.reverse ++ [y] := by rw [← List.reverse_reverse done, hdn]; simp
          have e0 : swL done s r = [p.reverse ++ s :: y :: r] := by rw [hdy]; exact swL_last _ _ _ _
          rw [e0] at ha hal
          have hlen : done.length = p.length + 1 := by rw [hdy]; simp
          have pos : decide ((0 : Int) < (done.length : Int)) = true := decide_eq_true (by omega)
          have yo : fz y = y := by
            obtain ⟨w, q', e, _⟩ := (h y (by rw [← hd, hdy]; simp)).head
            rw [e]; rfl
          have g0 : ((done.length : Int) - 1) = ((p.length : Nat) : Int) := by omega
          have g1 : cut l none (some ((p.length : Nat) : Int)) = p.reverse := by rw [← hd, hdy, List.append_assoc, ← List.length_reverse]; exact cutA p.reverse _
          have g2 : atx l ((p.length : Nat) : Int) = some y := by rw [← hd, hdy, List.append_assoc, ← List.length_reverse]; exact atxA p.reverse y _
          have k5 : decide (p.length + 2 ≤ line) = true := dline (by omega)
          have k6 : decide (p.length + 2 + r.length ≤ line) = true := dline (by omega)
          simp! only [c1, c2, k0, k3, so, sf, pos, g0, g1, g2, yo, k5, k6, k3', List.length_map, List.length_append, List.length_reverse]
          rw [show acc.map T.tup ++ [T.tup (done ++ r)] ++ [T.tup (p.reverse ++ [s, y] ++ r)] = (acc ++ [done ++ r, p.reverse ++ s :: y :: r]).map T.tup by simp]
          exact go (acc ++ [done ++ r, p.reverse ++ s :: y :: r]) (by simp at hal ⊢; omega) y4 y5 y6 y7 y8 y9 y10 _ fun y4 y5 y6 y7 y8 y9 y10 => fin (acc ++ [done ++ r, p.reverse ++ s :: y :: r]) y4 y5 y6 y7 y8 y9 y10 (by rw [List.append_assoc]; exact ha)
    · rintro e ⟨done, r, acc, y2, y3, y4, y5, y6, y7, y8, y9, y10, hr, hd, rfl, ha⟩
      have : r = [] := by cases r with
        | nil => rfl
        | cons _ _ => cases hr
      subst this
      rw [lcA_nil, List.append_nil] at ha
      subst ha
      unfold lcE
      simp! only []
      exact ⟨rfl, rfl⟩
end ViLaw

set_option maxRecDepth 100000
set_option maxHeartbeats 4000000
set_option linter.all false
set_option autoImplicit false
namespace ViLaw
open Vi
/-! ### "count" in str(body) -/
def noCo : List Nat → Bool
  | a :: b :: r => !(a == 99 && b == 111) && noCo (b :: r)
  | _ => true
theorem noCo_cc (a b : Nat) (r : List Nat) : noCo (a :: b :: r) = (!(a == 99 && b == 111) && noCo (b :: r)) := by rw [noCo]
def niceZ (z : List Nat) : Bool := noCo z && (!(z.head? == some 111) && !(z.getLast? == some 99))
theorem nice_of {z : List Nat} (h : niceZ z = true) : noCo z = true ∧ z.head? ≠ some 111 ∧ z.getLast? ≠ some 99 := by
  unfold niceZ at h
  simp only [Bool.and_eq_true, Bool.not_eq_true', beq_eq_false_iff_ne] at h
  exact h
theorem nice_mk {z : List Nat} (h1 : noCo z = true) (h2 : z.head? ≠ some 111) (h3 : z.getLast? ≠ some 99) : niceZ z = true := by
  unfold niceZ
  simp only [Bool.and_eq_true, Bool.not_eq_true', beq_eq_false_iff_ne]
  exact ⟨h1, h2, h3⟩
theorem noCo_app : ∀ (x y : List Nat), noCo x = true → noCo y = true → y.head? ≠ some 111 → noCo (x ++ y) = true
  | [], y, _, h, _ => h
  | [a], [], _, _, _ => rfl
  | [a], b :: y, _, h, h2 => by
    show noCo (a :: b :: y) = true
    rw [noCo_cc, h]
    have : b ≠ 111 := fun z => h2 (by rw [z]; rfl)
    have e : (b == 111) = false := by simpa using this
    rw [e]; simp
  | a :: b :: x, y, h, h', h2 => by
    rw [noCo_cc, Bool.and_eq_true] at h
    have := noCo_app (b :: x) y h.2 h' h2
    show noCo (a :: b :: (x ++ y)) = true
    rw [noCo_cc, h.1]
    exact this
theorem nice_app {x y : List Nat} (hx : niceZ x = true) (hy : niceZ y = true) : niceZ (x ++ y) = true := by
  obtain ⟨a1, a2, a3⟩ := nice_of hx
  obtain ⟨b1, b2, b3⟩ := nice_of hy
  refine nice_mk (noCo_app x y a1 b1 b2) ?_ ?_
  · cases x with
    | nil => exact b2
    | cons c x => exact a2
  · rw [List.getLast?_append]
    cases e : y.getLast? with
    | none => exact a3
    | some c => rw [e] at b3; exact b3
theorem nice_join {sep : List Nat} (hs : niceZ sep = true) : ∀ zs : List (List Nat), (∀ z ∈ zs, niceZ z = true) → niceZ (joinS sep zs) = true
  | [], _ => rfl
  | [a], h => h a List.mem_cons_self
  | a :: b :: r, h => nice_app (nice_app (h a List.mem_cons_self) hs) (nice_join hs (b :: r) fun z hz => h z (List.mem_cons_of_mem _ hz))
def tupZ (zs : List (List Nat)) : List Nat := 40 :: (joinS [44, 32] zs ++ (if zs.length = 1 then [44, 41] else [41]))
theorem nice_tup {zs : List (List Nat)} (h : ∀ z ∈ zs, niceZ z = true) : niceZ (tupZ zs) = true := by
  have h1 : niceZ ([40] ++ (joinS [44, 32] zs ++ (if zs.length = 1 then [44, 41] else [41]))) = true := by
    refine nice_app (by decide) (nice_app (nice_join (by decide) zs h) ?_)
    split <;> decide
  exact h1
theorem sub_no : ∀ z : List Nat, noCo z = true → subS wCount z = false
  | [], _ => rfl
  | [a], _ => by
    show (preS wCount [a] || subS wCount []) = false
    have : preS wCount [a] = false := by show (99 == a && preS [111, 117, 110, 116] []) = false; rw [show preS [111, 117, 110, 116] [] = false from rfl, Bool.and_false]
    rw [this]; rfl
  | a :: b :: r, h => by
    rw [noCo_cc, Bool.and_eq_true, Bool.not_eq_true'] at h
    have ih := sub_no (b :: r) h.2
    show (preS wCount (a :: b :: r) || subS wCount (b :: r)) = false
    rw [ih, Bool.or_false]
    show (99 == a && (111 == b && preS [117, 110, 116] r)) = false
    have h1 := h.1
    rw [Bool.and_eq_false_iff] at h1
    rcases h1 with h1 | h1
    · have : (99 == a) = false := by rw [beq_eq_false_iff_ne] at h1 ⊢; exact fun z => h1 z.symm
      rw [this]; rfl
    · have : (111 == b) = false := by rw [beq_eq_false_iff_ne] at h1 ⊢; exact fun z => h1 z.symm
      rw [this]; simp
theorem pre_app : ∀ (x z y : List Nat), preS x z = true → preS x (z ++ y) = true
  | [], z, y, _ => by cases z <;> cases y <;> rfl
  | a :: x, [], y, h => by cases h
  | a :: x, b :: z, y, h => by
    have h : (a == b && preS x z) = true := h
    rw [Bool.and_eq_true] at h
    show (a == b && preS x (z ++ y)) = true
    rw [h.1, pre_app x z y h.2]; rfl
theorem sub_right (x : List Nat) : ∀ (z y : List Nat), subS x z = true → subS x (z ++ y) = true
  | [], y, h => by
    have h : x.isEmpty = true := h
    cases x with
    | nil => cases y <;> simp [subS, preS]
    | cons _ _ => cases h
  | b :: z, y, h => by
    have h : (preS x (b :: z) || subS x z) = true := h
    rw [Bool.or_eq_true] at h
    show (preS x (b :: z ++ y) || subS x (z ++ y)) = true
    rw [Bool.or_eq_true]
    rcases h with h | h
    · exact .inl (pre_app x (b :: z) y h)
    · exact .inr (sub_right x z y h)
theorem sub_left (x : List Nat) : ∀ (y z : List Nat), subS x z = true → subS x (y ++ z) = true
  | [], z, h => h
  | b :: y, z, h => by
    show (preS x (b :: (y ++ z)) || subS x (y ++ z)) = true
    rw [sub_left x y z h, Bool.or_true]
theorem sub_join (x sep : List Nat) : ∀ (zs : List (List Nat)) (z : List Nat), z ∈ zs → subS x z = true → subS x (joinS sep zs) = true
  | [], z, h, _ => by simp at h
  | [a], z, h, hz => by rw [List.mem_singleton] at h; subst h; exact hz
  | a :: b :: r, z, h, hz => by
    show subS x (a ++ sep ++ joinS sep (b :: r)) = true
    rcases List.mem_cons.mp h with rfl | h
    · rw [List.append_assoc]; exact sub_right x _ _ hz
    · exact sub_left x _ _ (sub_join x sep (b :: r) z h hz)
theorem sub_tup {x : List Nat} {zs : List (List Nat)} {z : List Nat} (h : z ∈ zs) (hz : subS x z = true) : subS x (tupZ zs) = true :=
  sub_left x [40] _ (sub_right x _ _ (sub_join x [44, 32] zs z h hz))
theorem tupZ_len (zs : List (List Nat)) : (tupZ zs).length ≤ (zs.map List.length).sum + zs.length * 2 + 3 := by
  have := joinS_le [44, 32] zs
  unfold tupZ
  simp only [List.length_cons, List.length_append] at this ⊢
  have e : (if zs.length = 1 then [44, 41] else [41] : List Nat).length ≤ 2 := by split <;> simp
  simp at this
  omega
theorem reprT_tup {l : List T} {zs : List (List Nat)} (h : reprTs l = some zs) : reprT (.tup l) = some (tupZ zs) := by
  rw [reprT, h]; rfl
theorem reprTs_c {a : T} {r : List T} {z : List Nat} {zs : List (List Nat)} (h1 : reprT a = some z) (h2 : reprTs r = some zs) : reprTs (a :: r) = some (z :: zs) := by
  rw [reprTs, h1, h2]; rfl
theorem reprTs_n : reprTs [] = some [] := by rw [reprTs]
theorem repr_w {s : List Nat} (h : s.all lowC = true) : reprT (.str s) = some (39 :: (s ++ [39])) := by rw [reprT, if_pos h]
theorem repr_i {i : Int} (h0 : -1 ≤ i) (h1 : i ≤ 9) : reprT (.int i) = some (digS i) := by rw [reprT, if_pos ⟨h0, h1⟩]
theorem fact_repr {m : Nat} (hm : m ≤ 3) {f : T} (h : Fact m 9 f) : ∃ z, reprT f = some z ∧ z.length ≤ 60 ∧ niceZ z = true := by
  cases h with
  | ahead => exact ⟨_, reprT_tup (reprTs_c (repr_w (by decide)) reprTs_n), by decide, by decide⟩
  | num w s i hw hs h0 h1 =>
    have e := reprT_tup (reprTs_c (repr_w (s := w) (by rcases hw with rfl | rfl <;> decide)) (reprTs_c (repr_w (s := s) (by rcases hs with rfl | rfl <;> decide)) (reprTs_c (repr_i (i := i) (by omega) h1) reprTs_n)))
    refine ⟨_, e, ?_, ?_⟩
    all_goals
      rcases hw with rfl | rfl <;> rcases hs with rfl | rfl <;> rcases nine h0 h1 with rfl | rfl | rfl | rfl | rfl | rfl | rfl | rfl | rfl | rfl <;> decide
  | «at» e c he hc =>
    have hc3 : c = 0 ∨ c = 1 ∨ c = 2 := by omega
    have q := reprT_tup (reprTs_c (repr_w (s := wAt) (by decide)) (reprTs_c (repr_w (s := e) (by rcases he with rfl | rfl <;> decide)) (reprTs_c (repr_w (s := [97 + c]) (by rcases hc3 with rfl | rfl | rfl <;> decide)) reprTs_n)))
    refine ⟨_, q, ?_, ?_⟩
    all_goals
      rcases he with rfl | rfl <;> rcases hc3 with rfl | rfl | rfl <;> decide
theorem test_repr {m : Nat} (hm : m ≤ 3) {t : T} (h : Test m 9 t) : ∃ z, reprT t = some z ∧ z.length ≤ 80 ∧ niceZ z = true := by
  obtain ⟨b, f, rfl, hf⟩ := h
  obtain ⟨z, h1, h2, h3⟩ := fact_repr hm hf
  have hb : ∃ zb, reprT (.bl b) = some zb ∧ zb.length ≤ 5 ∧ niceZ zb = true := by cases b <;> exact ⟨_, by rw [reprT], by decide, by decide⟩
  obtain ⟨zb, b1, b2, b3⟩ := hb
  refine ⟨_, reprT_tup (reprTs_c b1 (reprTs_c h1 reprTs_n)), ?_, nice_tup fun x hx => ?_⟩
  · have := tupZ_len [zb, z]
    simp at this; omega
  · simp at hx; rcases hx with rfl | rfl
    · exact b3
    · exact h3
theorem tests_repr {m : Nat} (hm : m ≤ 3) : ∀ {l : List T}, (∀ x ∈ l, Test m 9 x) → ∃ zs, reprTs l = some zs ∧ zs.length = l.length ∧ (zs.map List.length).sum ≤ 80 * l.length ∧ ∀ z ∈ zs, niceZ z = true
  | [], _ => ⟨[], reprTs_n, rfl, by simp, fun z hz => by simp at hz⟩
  | t :: r, h => by
    obtain ⟨z, h1, h2, h3⟩ := test_repr hm (h t List.mem_cons_self)
    obtain ⟨zs, k1, k2, k3, k4⟩ := tests_repr hm (l := r) fun x hx => h x (List.mem_cons_of_mem _ hx)
    refine ⟨z :: zs, reprTs_c h1 k1, by simp [k2], by simp only [List.map_cons, List.sum_cons, List.length_cons]; omega, fun x hx => ?_⟩
    rcases List.mem_cons.mp hx with rfl | hx
    · exact h3
    · exact k4 x hx
theorem testsT_repr {m : Nat} (hm : m ≤ 3) {l : List T} (h : ∀ x ∈ l, Test m 9 x) (hl : l.length ≤ 3) : ∃ z, reprT (.tup l) = some z ∧ z.length ≤ 249 ∧ niceZ z = true := by
  obtain ⟨zs, k1, k2, k3, k4⟩ := tests_repr hm h
  exact ⟨_, reprT_tup k1, by have := tupZ_len zs; omega, nice_tup k4⟩
def cW (s : T) : Bool := ((lsS s).map ViLaw.hd).any fun y => eqb y (.str wCount)
theorem hasW_cons (s : T) (r : List T) : hasW wCount (s :: r) = (cW s || hasW wCount r) := by
  unfold hasW wordsL cW
  rw [lsL_cons, List.map_append, List.any_append]
theorem hasW_app : ∀ (a b : List T), hasW wCount (a ++ b) = (hasW wCount a || hasW wCount b)
  | [], b => rfl
  | s :: a, b => by rw [List.cons_append, hasW_cons, hasW_cons, hasW_app a b, Bool.or_assoc]
theorem cW_whl (t b : List T) : cW (.tup [.str wWhile, .tup t, .tup b]) = hasW wCount b := by
  unfold cW hasW wordsL
  rw [lsS_whl, List.map_cons, List.any_cons]; rfl
theorem cW_if (t b c : List T) : cW (.tup [.str wIf, .tup t, .tup b, .tup c]) = (hasW wCount b || hasW wCount c) := by
  unfold cW hasW wordsL
  rw [lsS_if, List.map_cons, List.any_cons, List.map_append, List.any_append]; rfl
/-- the text has the word, or is without c before o -/
def CoZ (k : Bool) (z : List Nat) : Prop := match k with
  | true => subS wCount z = true
  | false => niceZ z = true
theorem body_repr (N : List (List Nat)) {m : Nat} (hm : m ≤ 3) : ∀ (d : Nat), (∀ s, Stm N m 9 d s → ∃ z, reprT s = some z ∧ z.length + 2 ≤ 400 * (lsS s).length ∧ CoZ (cW s) z) ∧
    (∀ l, (∀ s ∈ l, Stm N m 9 d s) → ∃ zs, reprTs l = some zs ∧ (zs.map List.length).sum + 2 * zs.length ≤ 400 * szL l ∧ CoZ (hasW wCount l) (tupZ zs)) := by
  intro d
  have L : ∀ d, (∀ s, Stm N m 9 d s → ∃ z, reprT s = some z ∧ z.length + 2 ≤ 400 * (lsS s).length ∧ CoZ (cW s) z) → ∀ l, (∀ s ∈ l, Stm N m 9 d s) → ∃ zs, reprTs l = some zs ∧ (zs.map List.length).sum + 2 * zs.length ≤ 400 * szL l ∧ CoZ (hasW wCount l) (tupZ zs) := by
    intro d S l h
    have key : ∃ zs, reprTs l = some zs ∧ (zs.map List.length).sum + 2 * zs.length ≤ 400 * szL l ∧ (match hasW wCount l with
      | true => ∃ z ∈ zs, subS wCount z = true
      | false => ∀ z ∈ zs, niceZ z = true) := by
      induction l with
      | nil => exact ⟨[], reprTs_n, by simp, fun z hz => by simp at hz⟩
      | cons s r ih =>
        obtain ⟨z, h1, h2, h3⟩ := S s (h s List.mem_cons_self)
        obtain ⟨zs, k1, k2, k3⟩ := ih fun y hy => h y (List.mem_cons_of_mem _ hy)
        refine ⟨z :: zs, reprTs_c h1 k1, by rw [szL_cons]; simp only [List.map_cons, List.sum_cons, List.length_cons]; omega, ?_⟩
        rw [hasW_cons]
        cases c1 : cW s with
        | true =>
          rw [c1] at h3
          exact ⟨z, List.mem_cons_self, h3⟩
        | false =>
          rw [c1] at h3
          cases c2 : hasW wCount r with
          | true =>
            rw [c2] at k3
            obtain ⟨y, y1, y2⟩ := k3
            exact ⟨y, List.mem_cons_of_mem _ y1, y2⟩
          | false =>
            rw [c2] at k3
            intro y hy
            rcases List.mem_cons.mp hy with rfl | hy
            · exact h3
            · exact k3 y hy
    obtain ⟨zs, k1, k2, k3⟩ := key
    refine ⟨zs, k1, k2, ?_⟩
    cases c : hasW wCount l with
    | true =>
      rw [c] at k3
      obtain ⟨y, y1, y2⟩ := k3
      exact sub_tup y1 y2
    | false =>
      rw [c] at k3
      exact nice_tup k3
  induction d with
  | zero => exact ⟨(fun s h => nomatch h), L 0 (fun s h => nomatch h)⟩
  | succ d ih =>
    have S : ∀ s, Stm N m 9 (d + 1) s → ∃ z, reprT s = some z ∧ z.length + 2 ≤ 400 * (lsS s).length ∧ CoZ (cW s) z := by
      intro s hs
      cases hs with
      | plain _ w hw =>
        have c : cW (.tup [.str w]) = false := by rcases hw with rfl | rfl | rfl | rfl | rfl <;> rfl
        rw [c, lsS_plain]
        refine ⟨_, reprT_tup (reprTs_c (repr_w (s := w) (by rcases hw with rfl | rfl | rfl | rfl | rfl <;> decide)) reprTs_n), ?_, ?_⟩
        · rcases hw with rfl | rfl | rfl | rfl | rfl <;> decide
        · show niceZ _ = true
          rcases hw with rfl | rfl | rfl | rfl | rfl <;> decide
      | note _ w a hw hN ha =>
        have c : cW (.tup [.str w, .str a]) = false := by unfold cW; rw [lsS_note]; rcases hw with rfl | rfl <;> rfl
        rw [c, lsS_note]
        refine ⟨_, reprT_tup (reprTs_c (repr_w (s := w) (by rcases hw with rfl | rfl <;> decide)) (reprTs_c (repr_w (s := a) (by rcases ha with rfl | rfl <;> decide)) reprTs_n)), ?_, ?_⟩
        · rcases hw with rfl | rfl <;> rcases ha with rfl | rfl <;> decide
        · show niceZ _ = true
          rcases hw with rfl | rfl <;> rcases ha with rfl | rfl <;> decide
      | count _ a hN ha =>
        have c : cW (.tup [.str wCount, .str a]) = true := by unfold cW; rw [lsS_note]; rfl
        rw [c, lsS_note]
        refine ⟨_, reprT_tup (reprTs_c (repr_w (s := wCount) (by decide)) (reprTs_c (repr_w (s := a) (by rcases ha with rfl | rfl <;> decide)) reprTs_n)), ?_, ?_⟩
        · rcases ha with rfl | rfl <;> decide
        · show subS wCount _ = true
          rcases ha with rfl | rfl <;> decide
      | whl _ t b ht hl hb hl2 =>
        obtain ⟨zt, t1, t2, t3⟩ := testsT_repr hm ht hl
        obtain ⟨zs, b1, b2, b3⟩ := ih.2 b hb
        rw [cW_whl, lsS_whl]
        refine ⟨_, reprT_tup (reprTs_c (repr_w (s := wWhile) (by decide)) (reprTs_c t1 (reprTs_c (reprT_tup b1) reprTs_n))), ?_, ?_⟩
        · have e1 := tupZ_len [39 :: (wWhile ++ [39]), zt, tupZ zs]
          have e2 := tupZ_len zs
          simp [wWhile] at e1 ⊢
          unfold szL at b2
          omega
        · cases c : hasW wCount b with
          | true =>
            rw [c] at b3
            exact sub_tup (z := tupZ zs) (by simp) b3
          | false =>
            rw [c] at b3
            refine nice_tup fun x hx => ?_
            simp only [List.mem_cons, List.not_mem_nil, or_false] at hx
            rcases hx with rfl | rfl | rfl
            · decide
            · exact t3
            · exact b3
      | iff _ t b c ht hl hb hl2 hc hl3 =>
        obtain ⟨zt, t1, t2, t3⟩ := testsT_repr hm ht hl
        obtain ⟨zs, b1, b2, b3⟩ := ih.2 b hb
        obtain ⟨ys, c1, c2, c3⟩ := ih.2 c hc
        rw [cW_if, lsS_if]
        refine ⟨_, reprT_tup (reprTs_c (repr_w (s := wIf) (by decide)) (reprTs_c t1 (reprTs_c (reprT_tup b1) (reprTs_c (reprT_tup c1) reprTs_n)))), ?_, ?_⟩
        · have e1 := tupZ_len [39 :: (wIf ++ [39]), zt, tupZ zs, tupZ ys]
          have e2 := tupZ_len zs
          have e3 := tupZ_len ys
          unfold szL at b2 c2
          simp [wIf] at e1 ⊢
          omega
        · cases k1 : hasW wCount b with
          | true =>
            rw [k1] at b3
            exact sub_tup (z := tupZ zs) (by simp) b3
          | false =>
            rw [k1] at b3
            cases k2 : hasW wCount c with
            | true =>
              rw [k2] at c3
              exact sub_tup (z := tupZ ys) (by simp) c3
            | false =>
              rw [k2] at c3
              refine nice_tup fun x hx => ?_
              simp only [List.mem_cons, List.not_mem_nil, or_false] at hx
              rcases hx with rfl | rfl | rfl | rfl
              · decide
              · exact t3
              · exact b3
              · exact c3
    exact ⟨S, L (d + 1) S⟩
/-- str(body), and "count" in it -/
theorem str_body {N : List (List Nat)} {W : List Int} {b : T} {body : List T} (h : LoopOk N W b body) : ∃ z, b1T .str (.tup body) = some (.str z) ∧ subS wCount z = hasW wCount body := by
  obtain ⟨zs, h1, h2, h3⟩ := (body_repr N h.hm 4).2 body h.b.2
  refine ⟨tupZ zs, ?_, ?_⟩
  · have hd : dat 60 (.tup body) = true := dats_of fun x hx => (h.b.2 x hx).dat 59 (by omega)
    have hl : (tupZ zs).length ≤ line := by
      have e := tupZ_len zs
      have := h.s
      show _ ≤ 16777216; omega
    show ((reprTs body).bind fun zs => if dat 60 (.tup body) = true ∧ (tupZ zs).length ≤ line then some (T.str (tupZ zs)) else none) = _
    rw [h1]
    exact if_pos ⟨hd, hl⟩
  · cases c : hasW wCount body with
    | true => rw [c] at h3; exact h3
    | false => rw [c] at h3; exact sub_no _ (nice_of h3).1
/-- a loop without a count may have any begin -/
theorem stm_nc {m : Nat} {B : Int} : ∀ (d : Nat), (∀ s, Stm [wCount] m B d s → cW s = false → Stm [sMost, sLeast] m B d s) ∧ (∀ l, (∀ s ∈ l, Stm [wCount] m B d s) → hasW wCount l = false → ∀ s ∈ l, Stm [sMost, sLeast] m B d s) := by
  intro d
  have L : ∀ d, (∀ s, Stm [wCount] m B d s → cW s = false → Stm [sMost, sLeast] m B d s) → ∀ l, (∀ s ∈ l, Stm [wCount] m B d s) → hasW wCount l = false → ∀ s ∈ l, Stm [sMost, sLeast] m B d s := by
    intro d S l
    induction l with
    | nil => intro _ _ s hs; simp at hs
    | cons x r ih =>
      intro h hw s hs
      rw [hasW_cons, Bool.or_eq_false_iff] at hw
      rcases List.mem_cons.mp hs with rfl | hs
      · exact S s (h s List.mem_cons_self) hw.1
      · exact ih (fun y hy => h y (List.mem_cons_of_mem _ hy)) hw.2 s hs
  induction d with
  | zero => exact ⟨(fun s h => nomatch h), L 0 (fun s h => nomatch h)⟩
  | succ d ih =>
    have S : ∀ s, Stm [wCount] m B (d + 1) s → cW s = false → Stm [sMost, sLeast] m B (d + 1) s := by
      intro s hs hc
      cases hs with
      | plain _ w hw => exact .plain d w hw
      | note _ w a hw hN ha => rw [List.mem_singleton] at hN; subst hN; rcases hw with hw | hw <;> exact absurd hw (by decide)
      | count _ a hN ha =>
        have c : cW (.tup [.str wCount, .str a]) = true := by unfold cW; rw [lsS_note]; rfl
        rw [c] at hc; cases hc
      | whl _ t b ht hl hb hl2 =>
        rw [cW_whl] at hc
        exact .whl d t b ht hl (ih.2 b hb hc) hl2
      | iff _ t b c ht hl hb hl2 hcc hl3 =>
        rw [cW_if, Bool.or_eq_false_iff] at hc
        exact .iff d t b c ht hl (ih.2 b hb hc.1) hl2 (ih.2 c hcc hc.2) hl3
    exact ⟨S, L (d + 1) S⟩
theorem loop_norm {N : List (List Nat)} {W : List Int} {b : T} {body : List T} (h : LoopOk N W b body) : (hasW wCount body = true ∧ N = [wCount]) ∨ (hasW wCount body = false ∧ LoopOk [sMost, sLeast] W b body) := by
  rcases h.n with ⟨rfl, i, rfl, h0, h1⟩ | ⟨rfl, hb⟩
  · cases c : hasW wCount body with
    | true => exact .inl ⟨rfl, rfl⟩
    | false => exact .inr ⟨rfl, h.w, .inr ⟨rfl, .inr ⟨i, rfl, h0, h1⟩⟩, ⟨h.b.1, (stm_nc 4).2 body h.b.2 c⟩, h.s⟩
  · exact .inr ⟨hasW_no h.b.2 (by decide), h⟩
theorem count_int {N : List (List Nat)} {W : List Int} {b : T} {body : List T} (h : LoopOk N W b body) (hc : hasW wCount body = true) : ∃ i : Int, b = .int i := by
  rcases h.n with ⟨rfl, i, rfl, h0, h1⟩ | ⟨rfl, hb⟩
  · exact ⟨i, rfl⟩
  · rw [hasW_no h.b.2 (by decide)] at hc; cases hc
end ViLaw

set_option maxRecDepth 100000
set_option maxHeartbeats 4000000
set_option linter.all false
set_option autoImplicit false
namespace ViLaw
open Vi
/-! ### the dict of the loops by their texts -/
def txT : T → List Nat
  | .tup [.tup ws, b, .tup body] => joinS [10] ((wWorths ++ 32 :: joinS [32] (ws.map itemS)) :: (wBegin ++ 32 :: beginS b) :: liL body)
  | _ => []
theorem txT_loop (W : List Int) (b : T) (body : List T) : txT (loopT W b body) = textT W b body := by
  show joinS [10] ((wWorths ++ 32 :: joinS [32] ((W.map T.int).map itemS)) :: (wBegin ++ 32 :: beginS b) :: liL body) = _
  rw [List.map_map]; rfl
def LV (N : List (List Nat)) (W : List Int) (v : T) : Prop := ∃ b body, v = loopT W b body ∧ LoopOk N W b body
theorem LV.inj {N : List (List Nat)} {W : List Int} {u v : T} (hu : LV N W u) (hv : LV N W v) (h : txT u = txT v) : u = v := by
  obtain ⟨b, body, rfl, h1⟩ := hu
  obtain ⟨c, body', rfl, h2⟩ := hv
  rw [txT_loop, txT_loop] at h
  obtain ⟨e1, e2⟩ := textT_inj h1 h2 h
  rw [e1, e2]
def addV (vals : List T) (x : T) : List T := bif vals.any (fun v => txT v == txT x) then vals else vals ++ [x]
def foldV (loop : T) (S vals : List T) : List T := (S.filter fun x => !eqb x loop).foldl addV vals
def dicOf (vals : List T) : List (T × T) := vals.map fun v => (T.str (txT v), v)
def resOf (vals : List T) : List T := (sortS (vals.map txT)).map fun z => (dget (dicOf vals) (.str z)).getD .non
theorem dhas_dic : ∀ (vals : List T) (z : List Nat), dhas (dicOf vals) (.str z) = vals.any fun v => txT v == z
  | [], z => rfl
  | v :: vals, z => by
    show dhas ((T.str (txT v), v) :: dicOf vals) (.str z) = _
    rw [dhas_c, keq_ss, dhas_dic vals z, List.any_cons]
theorem kind_dic : ∀ (vals : List T) (z : List Nat), kindD (dicOf vals) (.str z) = true
  | [], _ => rfl
  | _ :: _, _ => rfl
theorem dput_dic {N : List (List Nat)} {W : List Int} {vals : List T} {x : T} (hv : ∀ v ∈ vals, LV N W v) (hx : LV N W x) : dput (dicOf vals) (.str (txT x)) x = dicOf (addV vals x) := by
  rw [dput_q, dhas_dic]
  unfold addV
  cases h : vals.any fun v => txT v == txT x with
  | false => show dicOf vals ++ _ = dicOf (vals ++ [x]); unfold dicOf; rw [List.map_append]; rfl
  | true =>
    show (dicOf vals).map _ = dicOf vals
    have : ∀ p ∈ dicOf vals, (bif keq p.1 (.str (txT x)) then (p.1, x) else p) = p := by
      intro p hp
      unfold dicOf at hp
      obtain ⟨v, hv', rfl⟩ := List.mem_map.mp hp
      show (bif keq (.str (txT v)) (.str (txT x)) then (T.str (txT v), x) else (T.str (txT v), v)) = _
      rw [keq_ss]
      cases e : (txT v == txT x) with
      | false => rfl
      | true =>
        have := (hv v hv').inj hx (by simpa using e)
        rw [← this]; rfl
    rw [List.map_congr_left this, List.map_id']
theorem dget_dic {N : List (List Nat)} {W : List Int} : ∀ {vals : List T}, (∀ v ∈ vals, LV N W v) → ∀ {x : T}, x ∈ vals → dget (dicOf vals) (.str (txT x)) = some x
  | [], _, x, h => by simp at h
  | v :: vals, hv, x, h => by
    show dget ((T.str (txT v), v) :: dicOf vals) (.str (txT x)) = _
    rw [dget_c, keq_ss]
    cases e : (txT v == txT x) with
    | true =>
      have := (hv v List.mem_cons_self).inj (hv x h) (by simpa using e)
      rw [this]; rfl
    | false =>
      rcases List.mem_cons.mp h with rfl | h
      · simp at e
      · exact dget_dic (fun u hu => hv u (List.mem_cons_of_mem _ hu)) h
/-! what is in it -/
theorem add_mem {N : List (List Nat)} {W : List Int} {vals : List T} {x : T} (hv : ∀ v ∈ vals, LV N W v) (hx : LV N W x) : ∀ y, y ∈ addV vals x ↔ y ∈ vals ∨ y = x := by
  intro y
  unfold addV
  cases h : vals.any fun v => txT v == txT x with
  | false => show y ∈ vals ++ [x] ↔ _; simp
  | true =>
    show y ∈ vals ↔ _
    rw [List.any_eq_true] at h
    obtain ⟨v, h1, h2⟩ := h
    have e := (hv v h1).inj hx (by simpa using h2)
    constructor
    · exact .inl
    · rintro (h | rfl)
      · exact h
      · rw [← e]; exact h1
theorem add_nodup {vals : List T} {x : T} (h : (vals.map txT).Nodup) : ((addV vals x).map txT).Nodup := by
  unfold addV
  cases hh : vals.any fun v => txT v == txT x with
  | true => exact h
  | false =>
    show ((vals ++ [x]).map txT).Nodup
    rw [List.map_append, List.nodup_append]
    refine ⟨h, by simp, fun a ha b hb => ?_⟩
    simp at hb
    subst hb
    intro e
    subst e
    obtain ⟨v, hv, e⟩ := List.mem_map.mp ha
    rw [List.any_eq_false] at hh
    exact hh v hv (by rw [e]; simp)
theorem fold_ok {N : List (List Nat)} {W : List Int} {loop : T} : ∀ (S vals : List T), (∀ v ∈ S, LV N W v) → (∀ v ∈ vals, LV N W v) → (vals.map txT).Nodup → (∀ v ∈ foldV loop S vals, LV N W v) ∧ ((foldV loop S vals).map txT).Nodup ∧ (∀ y, y ∈ foldV loop S vals ↔ y ∈ vals ∨ (y ∈ S ∧ eqb y loop = false))
  | [], vals, _, hv, hn => ⟨hv, hn, fun y => by show y ∈ vals ↔ _; simp⟩
  | x :: S, vals, hS, hv, hn => by
    have hx := hS x List.mem_cons_self
    have hS' : ∀ v ∈ S, LV N W v := fun v h => hS v (List.mem_cons_of_mem _ h)
    cases e : eqb x loop with
    | true =>
      have e1 : foldV loop (x :: S) vals = foldV loop S vals := by unfold foldV; rw [List.filter_cons, e]; rfl
      obtain ⟨a, b, c⟩ := fold_ok (loop := loop) S vals hS' hv hn
      rw [e1]
      refine ⟨a, b, fun y => ?_⟩
      rw [c y]
      constructor
      · rintro (h | ⟨h, k⟩)
        · exact .inl h
        · exact .inr ⟨List.mem_cons_of_mem _ h, k⟩
      · rintro (h | ⟨h, k⟩)
        · exact .inl h
        · rcases List.mem_cons.mp h with rfl | h
          · rw [e] at k; cases k
          · exact .inr ⟨h, k⟩
    | false =>
      have e1 : foldV loop (x :: S) vals = foldV loop S (addV vals x) := by unfold foldV; rw [List.filter_cons, e]; rfl
      have am := add_mem hv hx
      obtain ⟨a, b, c⟩ := fold_ok (loop := loop) S (addV vals x) hS' (fun v h => by
        rcases (am v).mp h with h | rfl
        · exact hv v h
        · exact hx) (add_nodup hn)
      rw [e1]
      refine ⟨a, b, fun y => ?_⟩
      rw [c y, am y]
      constructor
      · rintro ((h | rfl) | ⟨h, k⟩)
        · exact .inl h
        · exact .inr ⟨List.mem_cons_self, e⟩
        · exact .inr ⟨List.mem_cons_of_mem _ h, k⟩
      · rintro (h | ⟨h, k⟩)
        · exact .inl (.inl h)
        · rcases List.mem_cons.mp h with rfl | h
          · exact .inl (.inr rfl)
          · exact .inr ⟨h, k⟩
theorem add_len (vals : List T) (x : T) : (addV vals x).length ≤ vals.length + 1 := by
  unfold addV
  cases vals.any fun v => txT v == txT x <;> simp
theorem res_eq {N : List (List Nat)} {W : List Int} {u v : List T} (hu : ∀ x ∈ u, LV N W x) (hv : ∀ x ∈ v, LV N W x) (nu : (u.map txT).Nodup) (nv : (v.map txT).Nodup) (h : ∀ x, x ∈ u ↔ x ∈ v) : resOf u = resOf v := by
  have hp : (u.map txT).Perm (v.map txT) := (List.perm_ext_iff_of_nodup nu nv).mpr fun z => by
    constructor
    · intro hz
      obtain ⟨x, hx, rfl⟩ := List.mem_map.mp hz
      exact List.mem_map.mpr ⟨x, (h x).mp hx, rfl⟩
    · intro hz
      obtain ⟨x, hx, rfl⟩ := List.mem_map.mp hz
      exact List.mem_map.mpr ⟨x, (h x).mpr hx, rfl⟩
  have e : sortS (u.map txT) = sortS (v.map txT) := up_uniq (sortS_up _) (sortS_up _) (((sortS_perm _).trans hp).trans (sortS_perm _).symm)
  unfold resOf
  rw [← e]
  refine List.map_congr_left fun z hz => ?_
  have hz := (sortS_perm _).mem_iff.mp hz
  obtain ⟨x, hx, rfl⟩ := List.mem_map.mp hz
  rw [dget_dic hu hx, dget_dic hv ((h x).mp hx)]
theorem LV.txt {N : List (List Nat)} {W : List Int} {v : T} (h : LV N W v) : okK0 (.str (txT v)) = true := by
  obtain ⟨b, body, rfl, hh⟩ := h
  rw [txT_loop]
  show (decide ((textT W b body).length ≤ line) && (textT W b body).all fun c => decide (c < 1114112)) = true
  rw [Bool.and_eq_true, decide_eq_true_eq, List.all_eq_true]
  refine ⟨by have := text_len hh; show _ ≤ 16777216; omega, fun c hc => ?_⟩
  rw [decide_eq_true_eq]
  rcases joinS_in [10] hc with h | ⟨z, hz, h⟩
  · simp at h; omega
  · have := ((linesT_ok hh).2 z hz).2 c h; omega
end ViLaw

set_option maxRecDepth 100000
set_option maxHeartbeats 4000000
set_option linter.all false
set_option autoImplicit false
namespace ViLaw
open Vi
def somesB (W : List Int) (b no : T) (body : List T) (L : List (List T)) : List T := L.map (loopT W b) ++ [loopT W no body]
theorem ob_loop {N : List (List Nat)} {W : List Int} {b : T} {body x : List T} (h : LoopOk N W b body) (hx : x ∈ obA [] body) : LoopOk N W b x := by
  obtain ⟨h1, h2, h3⟩ := ((ob_ok N 4).2 body [] h.b.2 (fun s h => by simp at h)).2 x hx
  refine ⟨h.w, h.n, ⟨by have := h.b.1; simp at h2; omega, h1⟩, ?_⟩
  rw [szL_nil] at h3
  have := h.s
  omega
theorem somes_ok {N : List (List Nat)} {W : List Int} {b no : T} {body : List T} (h : LoopOk N W b body) (hno : LoopOk N W no body) : ∀ v ∈ somesB W b no body (obA [] body), LV N W v := by
  intro v hv
  unfold somesB at hv
  rcases List.mem_append.mp hv with hv | hv
  · obtain ⟨x, hx, rfl⟩ := List.mem_map.mp hv
    exact ⟨b, x, rfl, ob_loop h hx⟩
  · rw [List.mem_singleton] at hv
    subst hv
    exact ⟨no, body, rfl, hno⟩
theorem somes_len {N : List (List Nat)} {W : List Int} {b no : T} {body : List T} (h : LoopOk N W b body) : (somesB W b no body (obA [] body)).length ≤ 401 := by
  have h1 := ((ob_ok N 4).2 body [] h.b.2 (fun s h => by simp at h)).1
  have := h.s
  unfold somesB
  rw [List.length_append, List.length_map, List.length_singleton]
  omega
theorem loop_dat {N : List (List Nat)} {W : List Int} {b : T} {body : List T} (h : LoopOk N W b body) : Vi.dat 64 (loopT W b body) = true := by
  have e1 : Vi.dat 63 (tupI W) = true := dats_of fun x hx => by obtain ⟨i, _, rfl⟩ := List.mem_map.mp hx; rfl
  have e2 : Vi.dat 63 b = true := by rcases begin_cases h with rfl | ⟨i, rfl, _, _⟩ <;> rfl
  have e3 : Vi.dat 63 (.tup body) = true := dats_of fun x hx => (h.b.2 x hx).dat 62 (by omega)
  show dats 63 [tupI W, b, .tup body] = true
  rw [dats_c, dats_c, dats_c, dats_n, e1, e2, e3]; rfl
/-- the dict's end: the loops in the order of their texts -/
theorem dic_end {N : List (List Nat)} {W : List Int} {vals : List T} (hv : ∀ v ∈ vals, LV N W v) (hl : vals.length ≤ 1000) : ((dicOf vals).all fun p => okK0 p.1) = true ∧ ((dicOf vals).map fun p => p.1) = (vals.map txT).map T.str ∧ b1T .sorted (.lst true ((vals.map txT).map T.str)) = some (.lst true ((sortS (vals.map txT)).map T.str)) ∧ (sortS (vals.map txT)).length ≤ 1000 := by
  refine ⟨?_, ?_, ?_, ?_⟩
  · rw [List.all_eq_true]
    intro p hp
    unfold dicOf at hp
    obtain ⟨v, hv', rfl⟩ := List.mem_map.mp hp
    exact (hv v hv').txt
  · unfold dicOf; rw [List.map_map, List.map_map]; rfl
  · show ((strs? ((vals.map txT).map T.str)).bind fun ss => if ss.length ≤ line then some (T.lst true ((sortS ss).map .str)) else none) = _
    rw [strs_m]
    exact if_pos (by rw [List.length_map]; show _ ≤ 16777216; omega)
  · rw [(sortS_perm _).length_eq, List.length_map]; exact hl
theorem res_at {N : List (List Nat)} {W : List Int} {vals : List T} (hv : ∀ v ∈ vals, LV N W v) {z : List Nat} (hz : z ∈ sortS (vals.map txT)) : ∃ v, dget (dicOf vals) (.str z) = some v ∧ sh1 v = v ∧ fz v = v ∧ Vi.own v = false := by
  obtain ⟨v, h1, rfl⟩ := List.mem_map.mp ((sortS_perm _).mem_iff.mp hz)
  obtain ⟨b, body, e, _⟩ := hv v h1
  exact ⟨v, dget_dic hv h1, by rw [e]; rfl, by rw [e]; rfl, by rw [e]; rfl⟩
theorem t_changed (n : Nat) {N : List (List Nat)} {W : List Int} {b no : T} {body : List T} (k s : List Nat) (num : Int) (h : LoopOk N W b body) (hno : LoopOk N W no body) : prog.tab (n + 14) 26 [loopT W b body, wishT k s num no] = .ret (.lst true (resOf (foldV (loopT W b body) (somesB W b no body (obA [] body)) []))) [none, none] := by
  refine Pe_ret ?_
  rw [tabs (n + 13) 26 d_changed _ rfl]
  have hS := somes_ok h hno
  have hSl := somes_len (no := no) h
  have hob := ((ob_ok N 4).2 body [] h.b.2 (fun s h => by simp at h)).1
  have hs20 := h.s
  have e0 : prog.tab (n + 13) 25 [.tup body] = _ := (t_other N 4).2 n body h.b.2 h.b.1 h.s
  have bo : Vi.own b = false ∧ fz b = b := by rcases begin_cases h with rfl | ⟨i, rfl, _, _⟩ <;> exact ⟨rfl, rfl⟩
  have no' : Vi.own no = false ∧ fz no = no := by rcases begin_cases hno with rfl | ⟨i, rfl, _, _⟩ <;> exact ⟨rfl, rfl⟩
  have wo : Vi.own (tupI W) = false ∧ fz (tupI W) = tupI W := ⟨rfl, rfl⟩
  have dl' := loop_dat h
  rw [show wishT k s num no = .tup [.str k, .str s, .int num, no] from rfl]
  have el : loopT W b body = .tup [tupI W, b, .tup body] := rfl
  simp! only [d_changed, el, e0]
  refine turns_2 (m := (obA [] body).map (loopT W b)) (by rw [List.length_map]; show _ ≤ 16777216; omega) (by
    refine A2.lmap (A2.map fun x hx => ?_)
    simp! only [bo.1, bo.2, wo.1, wo.2]
    exact ⟨rfl, rfl⟩) fun e he => ?_
  rw [he]
  rotate_left
  · rfl
  have k1 : decide ((obA [] body).length + 1 ≤ line) = true := dline (by omega)
  have eS : (obA [] body).map (loopT W b) ++ [.tup [tupI W, no, .tup body]] = somesB W b no body (obA [] body) := rfl
  simp! only [bo.1, bo.2, wo.1, wo.2, no'.1, no'.2, k1, List.length_map, eS]
  generalize hSS : somesB W b no body (obA [] body) = S at *
  rw [← el]
  generalize hL : loopT W b body = L at *
  have lo : Vi.own L = false ∧ fz L = L := by rw [← hL]; exact ⟨rfl, rfl⟩
  refine forL_p (fun rest e => ∃ (vals : List T) (y4 : Option T), e = [some L, some (.tup [.str k, .str s, .int num, no]), some (.lst false S), some (.dic true (dicOf vals)), y4, some (tupI W), some b, some (.tup body), none] ∧ (∀ x ∈ rest, x ∈ S) ∧ foldV L rest vals = foldV L S [] ∧ (∀ v ∈ vals, LV N W v) ∧ vals.length + rest.length ≤ S.length) S _ ⟨[], none, rfl, fun x hx => hx, rfl, fun v hv => by simp at hv, by simp⟩ ?_ ?_
  · rintro x rest e ⟨vals, y4, rfl, h1, h2, h3, h4⟩
    have hx := hS x (h1 x List.mem_cons_self)
    have hr : ∀ y ∈ rest, y ∈ S := fun y hy => h1 y (List.mem_cons_of_mem _ hy)
    rw [List.length_cons] at h4
    obtain ⟨b', body', ex, hx'⟩ := id hx
    have xo : Vi.own x = false ∧ fz x = x := by rw [ex]; exact ⟨rfl, rfl⟩
    have q1 : prog.tab (n + 13) 12 [x] = .ret (.bl true) [none] := by
      have := t_is_loop n (loopT W b' body') 14 (by omega) hx'.dt
      rw [hx'.ok] at this
      rw [ex]; exact this
    have q2 : prog.tab (n + 13) 21 [x] = .ret (.lst true ((linesT W b' body').map .str)) [none] := by rw [ex]; exact t_lines_of (n + 6) hx'
    have q3 : Vi.dat 64 x = true := by rw [ex]; exact loop_dat hx'
    have q4 : decide (((linesT W b' body').map List.length).sum + (linesT W b' body').length * 1 ≤ line) = true := dline (by have := text_sum hx'; omega)
    have q5 : joinS [10] (linesT W b' body') = txT x := by rw [ex, txT_loop]; rfl
    cases e : eqb x L with
    | true =>
      simp! only [q1, q3, dl', e, lo.1, lo.2, xo.1, xo.2]
      refine ⟨vals, some x, rfl, hr, ?_, h3, by omega⟩
      rw [← h2]; unfold foldV; rw [List.filter_cons, e]; rfl
    | false =>
      have p1 := kind_dic vals (txT x)
      have p2 : decide ((dicOf vals).length < line) = true := by rw [decide_eq_true_eq]; unfold dicOf; rw [List.length_map]; show _ < 16777216; omega
      have p3 := dput_dic h3 hx
      simp! only [q1, q2, q3, dl', e, lo.1, lo.2, xo.1, xo.2, strs_m, q4, q5, p1, p2]
      rw [dput_q] at p3
      refine ⟨addV vals x, some x, by rw [p3], hr, ?_, ?_, by have := add_len vals x; omega⟩
      · rw [← h2]; unfold foldV; rw [List.filter_cons, e]; rfl
      · intro v hv
        rcases (add_mem h3 hx v).mp hv with hv | rfl
        · exact h3 v hv
        · exact hx
  · rintro e ⟨vals, y4, rfl, _, h2, h3, h4⟩
    have h2 : vals = foldV L S [] := h2
    rw [← h2]
    obtain ⟨d1, d2, d3, d4⟩ := dic_end h3 (by simp at h4; omega)
    simp! only [d1, d2, d3]
    refine turns_2 (m := resOf vals) (by rw [List.length_map]; show _ ≤ 16777216; omega) (by
      refine A2.lmap (A2.map fun z hz => ?_)
      obtain ⟨v, v1, v2, v3, v4⟩ := res_at h3 hz
      simp! only [kind_dic, v1, v2, v3, v4]
      exact ⟨rfl, rfl⟩) fun e he => ?_
    rw [he]
    rotate_left
    · rfl
    simp! only []
    exact ⟨rfl, rfl⟩
/-! ### the law's loops -/
theorem lc_mem {N : List (List Nat)} {W : List Int} {b no : T} {body : List T} (h : LoopOk N W b body) : (∀ v, v ∈ somesB W b no body (lcA [] body) ↔ v ∈ somesB W b no body (obA [] body)) ∧ (lcA [] body).length = (obA [] body).length := by
  obtain ⟨h1, h2⟩ := (lc_ob N 4).2 body [] h.b.2
  have e : swP [] body = [] := by cases body <;> rfl
  rw [e] at h1 h2
  refine ⟨fun v => ?_, by simpa using h1⟩
  unfold somesB
  rw [List.mem_append, List.mem_append]
  constructor
  · rintro (hv | hv)
    · obtain ⟨x, hx, rfl⟩ := List.mem_map.mp hv
      rcases (h2 x).mp hx with hx | hx
      · exact .inl (List.mem_map.mpr ⟨x, hx, rfl⟩)
      · simp at hx
    · exact .inr hv
  · rintro (hv | hv)
    · obtain ⟨x, hx, rfl⟩ := List.mem_map.mp hv
      exact .inl (List.mem_map.mpr ⟨x, (h2 x).mpr (.inl hx), rfl⟩)
    · exact .inr hv
theorem u_changes (n : Nat) {N : List (List Nat)} {W : List Int} {b no : T} {body : List T} (k s : List Nat) (num : Int) (h : LoopOk N W b body) (hno : LoopOk N W no body) : prog.tab (n + 7) 46 [loopT W b body, wishT k s num no] = .ret (.lst true (resOf (foldV (loopT W b body) (somesB W b no body (obA [] body)) []))) [none, none] := by
  obtain ⟨lm, ll⟩ := lc_mem (no := no) h
  have hS0 := somes_ok h hno
  have hS : ∀ v ∈ somesB W b no body (lcA [] body), LV N W v := fun v hv => hS0 v ((lm v).mp hv)
  have ree : resOf (foldV (loopT W b body) (somesB W b no body (obA [] body)) []) = resOf (foldV (loopT W b body) (somesB W b no body (lcA [] body)) []) := by
    obtain ⟨a1, a2, a3⟩ := fold_ok (loop := loopT W b body) (somesB W b no body (obA [] body)) [] hS0 (fun v hv => by simp at hv) (by simp)
    obtain ⟨b1, b2, b3⟩ := fold_ok (loop := loopT W b body) (somesB W b no body (lcA [] body)) [] hS (fun v hv => by simp at hv) (by simp)
    exact res_eq a1 b1 a2 b2 fun x => by rw [a3 x, b3 x, lm x]
  rw [ree]
  refine Pe_ret ?_
  rw [tabs (n + 6) 46 l_changes _ rfl]
  have hSl := somes_len (no := no) h
  have hob := ((ob_ok N 4).2 body [] h.b.2 (fun s h => by simp at h)).1
  have hs20 := h.s
  have e0 : prog.tab (n + 6) 45 [.tup body] = _ := u_changed N 4 n body h.b.2 h.b.1 h.s
  have bo : Vi.own b = false ∧ fz b = b := by rcases begin_cases h with rfl | ⟨i, rfl, _, _⟩ <;> exact ⟨rfl, rfl⟩
  have no' : Vi.own no = false ∧ fz no = no := by rcases begin_cases hno with rfl | ⟨i, rfl, _, _⟩ <;> exact ⟨rfl, rfl⟩
  have wo : Vi.own (tupI W) = false ∧ fz (tupI W) = tupI W := ⟨rfl, rfl⟩
  have dl' := loop_dat h
  rw [show wishT k s num no = .tup [.str k, .str s, .int num, no] from rfl]
  have el : loopT W b body = .tup [tupI W, b, .tup body] := rfl
  simp! only [l_changes, el, e0]
  refine turns_2 (m := (lcA [] body).map (loopT W b)) (by rw [List.length_map]; show _ ≤ 16777216; omega) (by
    refine A2.lmap (A2.map fun x hx => ?_)
    simp! only [bo.1, bo.2, wo.1, wo.2]
    exact ⟨rfl, rfl⟩) fun e he => ?_
  rw [he]
  rotate_left
  · rfl
  have k1 : decide ((lcA [] body).length + 1 ≤ line) = true := dline (by omega)
  have eS : (lcA [] body).map (loopT W b) ++ [.tup [tupI W, no, .tup body]] = somesB W b no body (lcA [] body) := rfl
  have hSl2 : (somesB W b no body (lcA [] body)).length ≤ 401 := by
    unfold somesB at hSl ⊢
    rw [List.length_append, List.length_map, List.length_singleton] at hSl ⊢
    omega
  simp! only [bo.1, bo.2, wo.1, wo.2, no'.1, no'.2, k1, List.length_map, eS]
  generalize hSS : somesB W b no body (lcA [] body) = S at *
  rw [← el]
  generalize hL : loopT W b body = L at *
  have lo : Vi.own L = false ∧ fz L = L := by rw [← hL]; exact ⟨rfl, rfl⟩
  refine forL_p (fun rest e => ∃ (vals : List T) (y3 y4 : Option T), e = [some L, some (.tup [.str k, .str s, .int num, no]), some (.dic true (dicOf vals)), y3, y4, none, none] ∧ (∀ x ∈ rest, x ∈ S) ∧ foldV L rest vals = foldV L S [] ∧ (∀ v ∈ vals, LV N W v) ∧ vals.length + rest.length ≤ S.length) S _ ⟨[], none, none, rfl, fun x hx => hx, rfl, fun v hv => by simp at hv, by simp⟩ ?_ ?_
  · rintro x rest e ⟨vals, y3, y4, rfl, h1, h2, h3, h4⟩
    have hx := hS x (h1 x List.mem_cons_self)
    have hr : ∀ y ∈ rest, y ∈ S := fun y hy => h1 y (List.mem_cons_of_mem _ hy)
    rw [List.length_cons] at h4
    obtain ⟨b', body', ex, hx'⟩ := id hx
    have xo : Vi.own x = false ∧ fz x = x := by rw [ex]; exact ⟨rfl, rfl⟩
    have i2 : idxT x (.int 2) = some (.tup body') := by rw [ex]; exact atx_2 _ _ _ _
    have i1 : idxT x (.int 1) = some b' := by rw [ex]; exact atx_1 _ _ _
    have bo' : Vi.own b' = false ∧ fz b' = b' := by rcases begin_cases hx' with rfl | ⟨i, rfl, _, _⟩ <;> exact ⟨rfl, rfl⟩
    obtain ⟨z, z1, z2⟩ := str_body hx'
    have iz : inT (.str [99, 111, 117, 110, 116]) (.str z) = some (hasW wCount body') := by rw [← z2]; rfl
    have good : ∃ g : Bool, g = true ∧ (hasW wCount body' = false ∨ (hasW wCount body' = true ∧ isNf false b' = some (.bl true))) := by
      refine ⟨true, rfl, ?_⟩
      cases c : hasW wCount body' with
      | false => exact .inl rfl
      | true =>
        obtain ⟨i, rfl⟩ := count_int hx' c
        exact .inr ⟨rfl, rfl⟩
    have q2 : prog.tab (n + 6) 43 [x] = .ret (.str (txT x)) [none] := by rw [ex, txT_loop]; exact u_text n hx'
    have q3 : Vi.dat 64 x = true := by rw [ex]; exact loop_dat hx'
    have next : ∀ (g : T), ∃ _ : Unit, True := fun _ => ⟨(), trivial⟩
    obtain ⟨_, _, hg⟩ := good
    cases e : eqb x L with
    | true =>
      have fin : ∃ (vals' : List T) (z3 z4 : Option T), [some L, some (.tup [.str k, .str s, .int num, no]), some (.dic true (dicOf vals)), some x, some (.bl true), none, none] = [some L, some (.tup [.str k, .str s, .int num, no]), some (.dic true (dicOf vals')), z3, z4, none, none] ∧ (∀ x ∈ rest, x ∈ S) ∧ foldV L rest vals' = foldV L S [] ∧ (∀ v ∈ vals', LV N W v) ∧ vals'.length + rest.length ≤ S.length := by
        refine ⟨vals, _, _, rfl, hr, ?_, h3, by omega⟩
        rw [← h2]; unfold foldV; rw [List.filter_cons, e]; rfl
      rcases hg with c | ⟨c, d⟩
      · simp! only [i2, i1, z1, iz, c, q3, dl', e, lo.1, lo.2, xo.1, xo.2]
        exact fin
      · simp! only [i2, i1, z1, iz, c, d, q3, dl', e, lo.1, lo.2, xo.1, xo.2, bo'.1, bo'.2]
        exact fin
    | false =>
      have p1 := kind_dic vals (txT x)
      have p2 : decide ((dicOf vals).length < line) = true := by rw [decide_eq_true_eq]; unfold dicOf; rw [List.length_map]; show _ < 16777216; omega
      have p3 := dput_dic h3 hx
      rw [dput_q] at p3
      have fin : ∀ D, D = dicOf (addV vals x) → ∃ (vals' : List T) (z3 z4 : Option T), [some L, some (.tup [.str k, .str s, .int num, no]), some (.dic true D), some x, some (.bl true), none, none] = [some L, some (.tup [.str k, .str s, .int num, no]), some (.dic true (dicOf vals')), z3, z4, none, none] ∧ (∀ x ∈ rest, x ∈ S) ∧ foldV L rest vals' = foldV L S [] ∧ (∀ v ∈ vals', LV N W v) ∧ vals'.length + rest.length ≤ S.length := by
        rintro D rfl
        refine ⟨addV vals x, _, _, rfl, hr, ?_, ?_, by have := add_len vals x; omega⟩
        · rw [← h2]; unfold foldV; rw [List.filter_cons, e]; rfl
        · intro v hv
          rcases (add_mem h3 hx v).mp hv with hv | rfl
          · exact h3 v hv
          · exact hx
      rcases hg with c | ⟨c, d⟩
      · simp! only [i2, i1, z1, iz, c, q2, q3, dl', e, lo.1, lo.2, xo.1, xo.2, p1, p2]
        exact fin _ p3
      · simp! only [i2, i1, z1, iz, c, d, q2, q3, dl', e, lo.1, lo.2, xo.1, xo.2, bo'.1, bo'.2, p1, p2]
        exact fin _ p3
  · rintro e ⟨vals, y3, y4, rfl, _, h2, h3, h4⟩
    have h2 : vals = foldV L S [] := h2
    rw [← h2]
    obtain ⟨d1, d2, d3, d4⟩ := dic_end h3 (by simp at h4; omega)
    simp! only [d1, d2, d3]
    refine turns_2 (m := resOf vals) (by rw [List.length_map]; show _ ≤ 16777216; omega) (by
      refine A2.lmap (A2.map fun z hz => ?_)
      obtain ⟨v, v1, v2, v3, v4⟩ := res_at h3 hz
      simp! only [kind_dic, v1, v2, v3, v4]
      exact ⟨rfl, rfl⟩) fun e he => ?_
    rw [he]
    rotate_left
    · rfl
    simp! only []
    exact ⟨rfl, rfl⟩
theorem wishB_q (k s : List Nat) (num : Int) (no : T) : wishB (wishT k s num no) = (inB (signsOf k) (.str s) && (numB 1 5 (.int num) && (bif k == kNum then numB 0 0 no else (isNon no || ((kLong == k || kGreat == k) && numB (-1) 0 no))))) := rfl
theorem wish_ok {k s : List Nat} {num : Int} {no : T} (hk : KOk k s no) (h1 : 1 ≤ num) (h2 : num ≤ 5) : wishB (wishT k s num no) = true ∧ Vi.dt 3 (wishT k s num no) = true := by
  have hn : numB 1 5 (.int num) = true := by show (decide (1 ≤ num) && decide (num ≤ 5)) = true; rw [decide_eq_true h1, decide_eq_true h2]; rfl
  rcases hk with ⟨rfl, hs, hn'⟩ | ⟨rfl, hs, rfl⟩ | ⟨rfl, hs, rfl⟩ | ⟨rfl, rfl, hn'⟩ | ⟨rfl, rfl, rfl⟩
  · rcases hs with rfl | rfl <;> rcases hn' with rfl | rfl | rfl <;> exact ⟨by rw [wishB_q, hn]; decide, rfl⟩
  · rcases hs with rfl | rfl <;> exact ⟨by rw [wishB_q, hn]; decide, rfl⟩
  · rcases hs with rfl | rfl <;> exact ⟨by rw [wishB_q, hn]; decide, rfl⟩
  · rcases hn' with rfl | rfl | rfl <;> exact ⟨by rw [wishB_q, hn]; decide, rfl⟩
  · exact ⟨by rw [wishB_q, hn]; decide, rfl⟩
theorem t_changes (n : Nat) {N : List (List Nat)} {W : List Int} {b no : T} {body : List T} {k s : List Nat} {num : Int} (h : LoopOk N W b body) (hno : LoopOk N W no body) (hk : KOk k s no) (h1 : 1 ≤ num) (h2 : num ≤ 5) (hc : hasW wCount body = (k == kNum)) : prog.tab (n + 17) 27 [loopT W b body, wishT k s num no] = .ret (.lst true (resOf (foldV (loopT W b body) (somesB W b no body (obA [] body)) []))) [none, none] := by
  have wf : Vi.own (wishT k s num no) = false ∧ fz (wishT k s num no) = wishT k s num no := ⟨rfl, rfl⟩
  have lf : Vi.own (loopT W b body) = false ∧ fz (loopT W b body) = loopT W b body := ⟨rfl, rfl⟩
  have w1 : prog.tab (n + 15) 15 [wishT k s num no] = .ret .non [none] := by
    obtain ⟨a1, a2⟩ := wish_ok hk h1 h2
    have t : prog.tab (n + 14) 13 [wishT k s num no] = .ret (.bl true) [none] := by
      have := t_is_wish (n + 12) (wishT k s num no) 3 (by omega) a2
      rw [a1] at this; exact this
    refine Pe_ret ?_
    rw [tabs (n + 14) 15 d_need_wish _ rfl]
    simp! only [d_need_wish, t, wf.1, wf.2]
    exact ⟨rfl, rfl⟩
  have w2 : prog.tab (n + 15) 14 [loopT W b body] = .ret .non [none] := t_need_loop (n + 1) h
  have w3 : prog.tab (n + 15) 16 [loopT W b body, wishT k s num no] = .ret (.bl true) [none, none] := by
    have t : prog.tab (n + 14) 10 [.tup body] = .ret (.bl (hasW wCount body)) [none] := t_counts (d := 4) (n + 6) body (by omega) h.b.1 h.b.2
    rw [hc] at t
    unfold kNum at t
    refine Pe_ret ?_
    rw [tabs (n + 14) 16 d_suits _ rfl]
    simp! only [d_suits, loopT, wishT, t]
    exact ⟨by simp, rfl⟩
  have w4 : prog.tab (n + 16) 17 [loopT W b body, wishT k s num no] = .ret .non [none, none] := by
    refine Pe_ret ?_
    rw [tabs (n + 15) 17 d_need_suiting _ rfl]
    simp! only [d_need_suiting, w1, w2, w3, wf.1, wf.2, lf.1, lf.2]
    exact ⟨rfl, rfl⟩
  have w5 : prog.tab (n + 16) 26 [loopT W b body, wishT k s num no] = _ := t_changed (n + 2) k s num h hno
  refine Pe_ret ?_
  rw [tabs (n + 16) 27 d_changes _ rfl]
  simp! only [d_changes, w4, w5, wf.1, wf.2, lf.1, lf.2]
  exact ⟨rfl, rfl⟩
end ViLaw

set_option maxRecDepth 100000
set_option maxHeartbeats 4000000
set_option linter.all false
set_option autoImplicit false
namespace ViLaw
open Vi
@[irreducible] def tb : Nat → List T → CR := prog.tab 40
theorem tb_all : tb = prog.tab 40 := by unfold tb; rfl
theorem tb_eq (f : Nat) (ts : List T) : tb f ts = prog.tab 40 f ts := by rw [tb_all]
theorem tab41 (f : Nat) (d : Def) (ts : List T) (h : prog.defs[f]? = some d) : prog.tab 41 f ts = d.run (Cfg.mk gl tb) ts := by
  rw [tb_all]
  exact tabs 40 f d ts h
/-! what is equal to itself -/
theorem eqb_self : ∀ (k : Nat), (∀ t, Vi.dat k t = true → eqb t t = true) ∧ (∀ l, dats k l = true → eqbs l l = true) := by
  intro k
  induction k with
  | zero =>
    have S : ∀ t, Vi.dat 0 t = true → eqb t t = true := by
      intro t h
      cases t with
      | non => rfl
      | bl b => cases b <;> rfl
      | int i => rw [eqb_ii]; simp
      | str s => rw [eqb_ss]; simp
      | _ => exact absurd h (by simp [Vi.dat])
    refine ⟨S, fun l => ?_⟩
    induction l with
    | nil => intro _; rfl
    | cons a l ih => intro h; rw [dats_c, Bool.and_eq_true] at h; rw [eqbs_cc, S a h.1, ih h.2]; rfl
  | succ k ih =>
    have S : ∀ t, Vi.dat (k + 1) t = true → eqb t t = true := by
      intro t h
      cases t with
      | non => rfl
      | bl b => cases b <;> rfl
      | int i => rw [eqb_ii]; simp
      | str s => rw [eqb_ss]; simp
      | tup l => rw [dat_t] at h; rw [eqb_tt]; exact ih.2 l h
      | lst o l => rw [dat_l] at h; rw [eqb_ll]; exact ih.2 l h
      | _ => exact absurd h (by simp [Vi.dat])
    refine ⟨S, fun l => ?_⟩
    induction l with
    | nil => intro _; rfl
    | cons a l ihl => intro h; rw [dats_c, Bool.and_eq_true] at h; rw [eqbs_cc, S a h.1, ihl h.2]; rfl
theorem LV.dat {N : List (List Nat)} {W : List Int} {v : T} (hv : LV N W v) : Vi.dat 63 v = true := by
  obtain ⟨b, body, rfl, h⟩ := hv
  have e1 : Vi.dat 62 (tupI W) = true := dats_of fun x hx => by obtain ⟨i, _, rfl⟩ := List.mem_map.mp hx; rfl
  have e2 : Vi.dat 62 b = true := by rcases begin_cases h with rfl | ⟨i, rfl, _, _⟩ <;> rfl
  have e3 : Vi.dat 62 (.tup body) = true := dats_of fun x hx => (h.b.2 x hx).dat 61 (by omega)
  show dats 62 [tupI W, b, .tup body] = true
  rw [dats_c, dats_c, dats_c, dats_n, e1, e2, e3]; rfl
theorem res_lv {N : List (List Nat)} {W : List Int} {vals : List T} (hv : ∀ v ∈ vals, LV N W v) : ∀ x ∈ resOf vals, LV N W x := by
  intro x hx
  unfold resOf at hx
  obtain ⟨z, hz, rfl⟩ := List.mem_map.mp hx
  obtain ⟨v, h1, rfl⟩ := List.mem_map.mp ((sortS_perm _).mem_iff.mp hz)
  rw [dget_dic hv h1]
  exact hv v h1
theorem res_all {N : List (List Nat)} {W : List Int} {b no : T} {body : List T} (h : LoopOk N W b body) (hno : LoopOk N W no body) : ∀ x ∈ resOf (foldV (loopT W b body) (somesB W b no body (obA [] body)) []), LV N W x :=
  res_lv (fold_ok (loop := loopT W b body) (somesB W b no body (obA [] body)) [] (somes_ok h hno) (fun v hv => by simp at hv) (by simp)).1
def kB : Ss := match d_law.body with | .cons (.for _ _ b) _ => b | _ => .nil
def endS : Ss := match d_law.body with | .cons _ r => r | _ => .nil
def tB : Ss := match kB with | .cons _ (.cons (.for _ _ b) _) => b | _ => .nil
def tB4 : Ss := match tB with | .cons _ (.cons _ (.cons _ r)) => r | _ => .nil
def kE (ns : List Int) (x1 x5 x6 x7 x8 x9 x10 : Option T) : Env := [some (.lst false (ns.map .int)), x1, none, none, none, x5, x6, x7, x8, x9, x10]
theorem rng3 : rngT (.int 0) (.int 3) = some [.int 0, .int 1, .int 2] := rfl
theorem turn4 (ns : List Int) (x1 x5 x6 x8 x10 : Option T) {N : List (List Nat)} {W : List Int} {b no : T} {body : List T} {k s : List Nat} {num : Int} (h : LoopOk N W b body) (hno : LoopOk N W no body) (hk : KOk k s no) (h1 : 1 ≤ num) (h2 : num ≤ 5) (hc : hasW wCount body = (k == kNum)) (Q : Fl → Env → Prop)
    (hQ : ∀ y10, Q .nx (kE ns x1 x5 x6 (some (loopT W b body)) x8 (some (wishT k s num no)) y10)) : Pt Q (exs ⟨gl, tb⟩ tB4 (kE ns x1 x5 x6 (some (loopT W b body)) x8 (some (wishT k s num no)) x10)) := by
  have a1 := (tb_eq _ _).trans (t_changes 23 h hno hk h1 h2 hc)
  have a2 := (tb_eq _ _).trans (u_changes 33 k s num h hno)
  have hr := res_all h hno
  generalize resOf (foldV (loopT W b body) (somesB W b no body (obA [] body)) []) = R at *
  have hd : dats 63 R = true := dats_of fun x hx => (hr x hx).dat
  have he := (eqb_self 63).2 R hd
  have wf : Vi.own (wishT k s num no) = false ∧ fz (wishT k s num no) = wishT k s num no := ⟨rfl, rfl⟩
  have lf : Vi.own (loopT W b body) = false ∧ fz (loopT W b body) = loopT W b body := ⟨rfl, rfl⟩
  unfold kE at *
  simp! only [tB4, tB, kB, d_law, a1, a2, hd, he, wf.1, wf.2, lf.1, lf.2]
  exact hQ _
theorem turn_p (ns : List Int) (x1 x6 x7 x8 x9 x10 : Option T) (p : Int × Int) (Q : Fl → Env → Prop) (hQ : ∀ q y7 y8 y9 y10, plain1 y7 = true → Q .nx (kE ns x1 (some (srcT q)) x6 y7 y8 y9 y10)) : Pt Q (exs ⟨gl, tb⟩ tB (kE ns x1 (some (srcT p)) x6 x7 x8 x9 x10)) := by
  rw [show tB = .cons _ (.cons _ (.cons _ tB4)) from rfl]
  unfold kE at *
  simp! only [own_src]
  rw [tb_eq]
  refine p_loop (n := 29) fun N W b body q h => ?_
  have lf : Vi.own (loopT W b body) = false ∧ fz (loopT W b body) = loopT W b body := ⟨rfl, rfl⟩
  simp! only [own_src, lf.1, lf.2]
  rw [tb_eq]
  refine p_of (n := 38) (by show 0 < 4; decide) (by show 4 ≤ 1000; decide) fun x q hx => ?_
  have hx : ∃ k0, x = .str k0 ∧ (k0 = kLong ∨ k0 = kShort ∨ k0 = kGreat ∨ k0 = kSmall) := by
    simp only [List.mem_cons, List.not_mem_nil, or_false] at hx
    rcases hx with rfl | rfl | rfl | rfl
    · exact ⟨kLong, rfl, .inl rfl⟩
    · exact ⟨kShort, rfl, .inr (.inl rfl)⟩
    · exact ⟨kGreat, rfl, .inr (.inr (.inl rfl))⟩
    · exact ⟨kSmall, rfl, .inr (.inr (.inr rfl))⟩
  obtain ⟨k0, rfl, hk0⟩ := hx
  obtain ⟨z, z1, z2⟩ := str_body h
  have iz : inT (.str [99, 111, 117, 110, 116]) (.str z) = some (hasW wCount body) := by rw [← z2]; rfl
  have i2 : idxT (loopT W b body) (.int 2) = some (.tup body) := atx_2 _ _ _ _
  rcases loop_norm h with ⟨hc, rfl⟩ | ⟨hc, h'⟩
  · rw [hc] at iz
    simp! only [own_src, lf.1, lf.2, i2, z1, iz]
    rw [tb_eq, show [110, 117, 109, 98, 101, 114] = kNum from rfl]
    refine p_wishK (n := 37) (.inr (.inr (.inl rfl))) fun k' s num no q hk' hk h1 h2 => ?_
    subst hk'
    have hno : no = .int 0 := by
      rcases hk with ⟨e, _⟩ | ⟨e, _⟩ | ⟨_, _, e⟩ | ⟨e, _⟩ | ⟨e, _⟩
      · exact absurd e (by decide)
      · exact absurd e (by decide)
      · exact e
      · exact absurd e (by decide)
      · exact absurd e (by decide)
    subst hno
    have lno : LoopOk [wCount] W (.int 0) body := ⟨h.w, .inl ⟨rfl, 0, rfl, by omega, by omega⟩, h.b, h.s⟩
    have wf : Vi.own (wishT kNum s num (.int 0)) = false ∧ fz (wishT kNum s num (.int 0)) = wishT kNum s num (.int 0) := ⟨rfl, rfl⟩
    simp! only [wf.1, wf.2]
    refine turn4 ns _ _ _ _ _ h lno hk h1 h2 (by rw [hc]; decide) _ fun y10 => ?_
    exact hQ _ _ _ _ _ rfl
  · rw [hc] at iz
    simp! only [own_src, lf.1, lf.2, i2, z1, iz]
    rw [tb_eq]
    refine p_wishK (n := 37) (by rcases hk0 with h | h | h | h <;> simp [h]) fun k' s num no q hk' hk h1 h2 => ?_
    subst hk'
    have hno : no = .non ∨ ∃ i : Int, no = .int i ∧ -1 ≤ i ∧ i ≤ 9 := by
      rcases hk with ⟨_, _, rfl | rfl | rfl⟩ | ⟨_, _, rfl⟩ | ⟨_, _, rfl⟩ | ⟨_, _, rfl | rfl | rfl⟩ | ⟨_, _, rfl⟩
      all_goals first | exact .inl rfl | exact .inr ⟨_, rfl, by omega, by omega⟩
    have lno : LoopOk [sMost, sLeast] W no body := ⟨h'.w, .inr ⟨rfl, hno⟩, h'.b, h'.s⟩
    have wf : Vi.own (wishT k' s num no) = false ∧ fz (wishT k' s num no) = wishT k' s num no := ⟨rfl, rfl⟩
    simp! only [wf.1, wf.2]
    refine turn4 ns _ _ _ _ _ h' lno hk h1 h2 (by rw [hc]; rcases hk0 with rfl | rfl | rfl | rfl <;> decide) _ fun y10 => ?_
    exact hQ _ _ _ _ _ rfl
theorem k_p (ns : List Int) (hn : ns.length ≤ 63) (k : Int) (hk : 0 ≤ k) (x5 x6 x7 x8 x9 x10 : Option T) (Q : Fl → Env → Prop) (hQ : ∀ x5 x6 x7 x8 x9 x10, plain1 x7 = true → Q .nx (kE ns (some (.int k)) x5 x6 x7 x8 x9 x10)) : Pt Q (exs ⟨gl, tb⟩ kB (kE ns (some (.int k)) x5 x6 x7 x8 x9 x10)) := by
  rw [show kB = .cons _ (.cons (.for _ _ tB) .nil) from rfl]
  unfold kE
  simp! only []
  rw [tb_eq]
  refine p_source (n := 39) hk hn fun p => ?_
  simp! only [own_src, rng3]
  refine turn_p ns _ _ x7 x8 x9 x10 p _ fun q y7 y8 y9 y10 hp => ?_
  unfold kE
  simp! only []
  refine turn_p ns _ _ y7 y8 y9 y10 q _ fun q y7 y8 y9 y10 hp => ?_
  unfold kE
  simp! only []
  refine turn_p ns _ _ y7 y8 y9 y10 q _ fun q y7 y8 y9 y10 hp => ?_
  unfold kE
  simp! only []
  exact hQ _ _ _ _ _ _ hp
def body1 : List T := [.tup [.str wStop], .tup [.str wStop], .tup [.str wWhile, .tup [], .tup []]]
theorem ok1 (b : T) (hb : b = .non ∨ ∃ i : Int, b = .int i ∧ -1 ≤ i ∧ i ≤ 9) : LoopOk [sMost, sLeast] [1] b body1 := by
  refine ⟨⟨by decide, by decide, fun i hi => by simp at hi; omega⟩, .inr ⟨rfl, hb⟩, ⟨by decide, fun x hx => ?_⟩, by decide +kernel⟩
  unfold body1 at hx
  simp only [List.mem_cons, List.not_mem_nil, or_false] at hx
  rcases hx with rfl | rfl | rfl
  · exact .plain 3 wStop (by simp)
  · exact .plain 3 wStop (by simp)
  · exact .whl 3 [] [] (fun x hx => by simp at hx) (by decide) (fun x hx => by simp at hx) (by decide)
def R1 : List T := resOf (foldV (loopT [1] .non body1) (somesB [1] .non (.int (-1)) body1 (obA [] body1)) [])
def pairOf : T → T
  | .tup [_, b, .tup body] => .tup [.str (wBegin ++ 32 :: beginS b), .tup body]
  | t => t
def due1 : List T := [.tup [.str [98, 101, 103, 105, 110, 32, 45, 49], .tup body1], .tup [.str [98, 101, 103, 105, 110, 32, 110, 111, 110, 101], .tup [.tup [.str wStop], .tup [.str wStop]]], .tup [.str [98, 101, 103, 105, 110, 32, 110, 111, 110, 101], .tup [.tup [.str wStop], .tup [.str wWhile, .tup [], .tup []]]],
  .tup [.str [98, 101, 103, 105, 110, 32, 110, 111, 110, 101], .tup [.tup [.str wStop], .tup [.str wWhile, .tup [], .tup []], .tup [.str wStop]]]]
theorem r1_eq : eqbs (R1.map pairOf) due1 = true ∧ dats 63 (R1.map pairOf) = true ∧ dats 63 due1 = true ∧ R1.length = 4 := by decide +kernel
theorem end_p (ns : List Int) (x1 x5 x6 x7 x8 x9 x10 : Option T) (hp : plain1 x7 = true) : Pt (fun f e => f = .ret (.bl true)) (exs ⟨gl, tb⟩ endS (kE ns x1 x5 x6 x7 x8 x9 x10)) := by
  unfold kE
  have h1 := ok1 .non (.inl rfl)
  have h2 := ok1 (.int (-1)) (.inr ⟨-1, rfl, by omega, by omega⟩)
  have a1 : tb 27 [loopT [1] .non body1, wishT kLong sMost 1 (.int (-1))] = .ret (.lst true R1) [none, none] := (tb_eq _ _).trans (t_changes 23 h1 h2 (.inl ⟨rfl, .inl rfl, .inr (.inr rfl)⟩) (by omega) (by omega) (by decide +kernel))
  obtain ⟨r1, r2, r3, r4⟩ := r1_eq
  have hr : ∀ x ∈ R1, LV [sMost, sLeast] [1] x := res_all h1 h2
  unfold due1 body1 at r1 r3
  unfold loopT tupI body1 wishT at a1
  generalize R1 = R at *
  unfold wStop wWhile at a1 r1 r3
  unfold kLong sMost at a1
  rw [List.map_cons, List.map_nil] at a1
  simp! only [endS, d_law, a1, hp]
  refine turns_2 (m := R.map pairOf) (by rw [r4]; decide) (A2.map fun x hx => by
    obtain ⟨b, body, ex, hh⟩ := hr x hx
    have q1 : tb 43 [x] = .ret (.str (textT [1] b body)) [none] := (tb_eq _ _).trans (by rw [ex]; exact u_text 34 hh)
    have q2 : splS [10] 0 [] (textT [1] b body) = linesT [1] b body := spl_joinS (by unfold linesT; simp) fun z hz hc => by
      have := ((linesT_ok hh).2 z hz).2 10 hc; omega
    have q3 : splOk (textT [1] b body) [10] = true := sp10 (by have := text_len hh; omega)
    have q4 : atx ((linesT [1] b body).map T.str) 1 = some (.str (wBegin ++ 32 :: beginS b)) := atx_1 _ _ _
    have i2 : idxT x (.int 2) = some (.tup body) := by rw [ex]; exact atx_2 _ _ _ _
    have xo : Vi.own x = false ∧ fz x = x := by rw [ex]; exact ⟨rfl, rfl⟩
    have pe : pairOf x = .tup [.str (wBegin ++ 32 :: beginS b), .tup body] := by rw [ex]; rfl
    rw [pe]
    simp! only [q1, q2, q3, q4, i2, xo.1, xo.2]
    exact ⟨rfl, rfl⟩) fun e he => ?_
  rw [he]
  rotate_left
  · rfl
  simp! only [r1, r2, r3]
theorem law_true (ns : List Int) (hn : ns.length ≤ 63) : ∃ outs, prog.tab 41 47 [.lst false (ns.map .int)] = .ret (.bl true) outs := by
  have key : Pc (fun t o => t = .bl true) (prog.tab 41 47 [.lst false (ns.map .int)]) := by
    rw [tab41 47 d_law _ rfl, show d_law = ⟨_, _, _, _, .cons (.for _ _ kB) endS⟩ from rfl]
    have hc : 0 ≤ 1 + (if (10 : Int) < (ns.length : Int) then 10 else (ns.length : Int)) ∧ 1 + (if (10 : Int) < (ns.length : Int) then 10 else (ns.length : Int)) ≤ 1000000 := by split <;> omega
    simp! only [List.length_map, rng_d hc.1 hc.2]
    refine forL_p (fun r e => (∀ y ∈ r, ∃ i : Int, y = .int i ∧ 0 ≤ i) ∧ ∃ x1 x5 x6 x7 x8 x9 x10, plain1 x7 = true ∧ e = kE ns x1 x5 x6 x7 x8 x9 x10) _ _ ⟨fun y hy => ?_, none, none, none, none, none, none, none, rfl, rfl⟩ ?_ ?_
    · unfold upto at hy
      obtain ⟨j, _, rfl⟩ := List.mem_map.mp hy
      exact ⟨_, rfl, by omega⟩
    · rintro x r e ⟨hr, x1, x5, x6, x7, x8, x9, x10, hp, rfl⟩
      obtain ⟨i, rfl, hi⟩ := hr x List.mem_cons_self
      have : ∀ (F : Unit → Env → Prop), F () (kE ns (some (.int i)) x5 x6 x7 x8 x9 x10) → Pt F (asg (.nm 1) (.int i) (kE ns x1 x5 x6 x7 x8 x9 x10)) := fun F hF => by
        unfold kE at *
        simp! only []
        exact hF
      refine this _ ?_
      exact k_p ns hn i hi x5 x6 x7 x8 x9 x10 _ fun y5 y6 y7 y8 y9 y10 hp => ⟨fun y hy => hr y (List.mem_cons_of_mem _ hy), _, _, _, _, _, _, _, hp, rfl⟩
    · rintro e ⟨_, x1, x5, x6, x7, x8, x9, x10, hp, rfl⟩
      rw [nxt_n]
      refine Pt_mono (end_p ns x1 x5 x6 x7 x8 x9 x10 hp) fun f e hf => ?_
      subst hf
      exact rfl
  obtain ⟨t, o, e, rfl⟩ := Pc_elim key
  exact ⟨o, e⟩
end ViLaw

set_option autoImplicit true
set_option maxRecDepth 100000
set_option maxHeartbeats 0
open PySem PySem.W PySem.Calls PyProof.Rows
theorem PySem.Challenge.cw_windowends_k18_single_changes_holds : PySem.Challenge.rw_windowends_k18_single_changes.Holds := by
  w_on; o_law
  refine HandSHeadRun.head_any (r := OpenLaw.row PySem.Challenge.rw_windowends_k18_single_changes) (q := view (OpenLaw.row PySem.Challenge.rw_windowends_k18_single_changes).prog [62]) (H := ViHead.hk) (ob := ViHead.ob) (M := 40000) (loose := ViHead.loose) (d := HandSHeadRun.topDef (OpenLaw.row PySem.Challenge.rw_windowends_k18_single_changes).prog 62) (kwd := []) ViHead.ob_eq
    (by kernel_rfl) (fun s => by kernel_rfl) ViHead.run (by kernel_rfl) (by kernel_rfl) (by kernel_rfl) (by rfl) (by first | assumption | decide +kernel) (by decide +kernel) ⟨rfl, rfl, rfl, rfl, rfl, by decide +kernel⟩ ?hw ?hc
  case hw => w_witness2
  case hc =>
    refine Vi.walk_gu (l := PySem.Challenge.rw_windowends_k18_single_changes) (n := 63) (k := 41) (x := "script") (CX := Vi.CXn) rfl (by decide) (by kernel_rfl) ⟨rfl, by decide, by decide⟩ ?F (fun _ _ _ _ z => z)
    intro w mg fa h Y G hmg0
    obtain ⟨K, KX, c⟩ := Y
    have hmg : mg ("law" : PySem.Str) = some (.ref fa) := by
      have e : (HandSHeadRun.topDef (OpenLaw.row PySem.Challenge.rw_windowends_k18_single_changes).prog 62).name = ("law" : PySem.Str) := by kernel_rfl
      rw [← e]
      exact hmg0
    obtain ⟨W⟩ := Vi.prog_ok (P := (PySem.Challenge.rw_windowends_k18_single_changes).prog) (w := w) KX G c ViHead.cfn
    have hl : ViLaw.prog.defs[47]? = some ViLaw.d_law := rfl
    have efa : W.fa 47 = fa := by
      have e := (W.at_ 47 ViLaw.d_law hl).symm.trans hmg
      cases e
      rfl
    have hF := fun base : Heap => Vi.all_defs (base := base) W 41 47 ViLaw.d_law hl
    subst efa
    exact ⟨K, (W.defs 47 ViLaw.d_law hl).fd, Vi.spV ⟨_, w, K⟩ 1 (ViLaw.prog.tab 41 47), KX, fun s u => Vi.law_bind (W.defs 47 ViLaw.d_law hl) rfl s u, fun H a ns hn _ hS => Vi.law_sp (ViLaw.law_true ns hn) hS, fun base _ _ => hF base⟩
