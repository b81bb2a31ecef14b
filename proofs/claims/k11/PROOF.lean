import PyProof.Rows.All
import Wide.All
import OpenK.AllK
import Wide.FinOn
import HandS.ForMost
import HandS.Exc
import HandS.WordsExc
import HandS.Slots
import HandS.SlotsOwn
import HandS.IsInst
import HandS.Wide
import HandS.Flow
import HandS.Style
import HandS.DictComp
import HandS.Zip
import HandS.Rev
import HandS.Walk
import KE.KDictList
import HandS.Sort
import KE.KEqNest
import HandS.TupLe
import HandS.RaiseMore
import HandS.Replace
import PyProof.SeqIndex
import HandS.Strs
import KE.GoesMore
import HandS.Small
import HandS.HeadWalk
import HandS.Head0
import HandS.Head1
import HandS.Head2
import HandS.HeadHook1
import HandS.HeadHook2
import PyProof.StrLawsRepr
import PyProof.FitsInt
import PySem.Challenge.RW_cratetowers_k11_single_moves
set_option Elab.async false
set_option linter.all false
set_option maxRecDepth 100000
set_option maxHeartbeats 0
/-! PD: a small language of tree values: D, its texts, its evaluator. No model of Python in sight. -/
namespace PD

/-- a value as a tree; hnd n is the n-th cell of the store -/
inductive D where
  | non | bl (b : Bool) | int (i : Int) | str (s : List Nat)
  | lst (xs : List D) | tup (xs : List D) | dic (ks vs : List D) | ins (c : Nat) (fs : List D) | hnd (n : Nat)
  /-- the script -/
  | scr (xs : List Int)
  deriving Inhabited

/-- how much of a tree is one's own: nothing, its topmost object, all -/
inductive Own where | no | top | all
  deriving DecidableEq, Inhabited

mutual
/-- no object that could change stands in it -/
def flat : D → Bool
  | .lst _ => false
  | .dic _ _ => false
  | .ins _ _ => false
  | .scr _ => false
  | .tup xs => flatL xs
  | _ => true
def flatL : List D → Bool
  | [] => true
  | x :: xs => flat x && flatL xs
end

inductive Cell where
  | nums (xs : List Int)
abbrev Store := List Cell
abbrev VD := Own × D

inductive R (α : Type) where
  | ok (a : α) (st : Store)
  | exc (c : Nat) (ds : List D) (st : Store)
  | no
namespace R
def bind {α β : Type} : R α → (α → Store → R β) → R β
  | ok a st, f => f a st
  | exc c ds st, _ => exc c ds st
  | no, _ => no
/-- an exception isn't told -/
def noX {α : Type} : R α → R α
  | exc _ _ _ => no
  | x => x
def of {α : Type} (o : Option α) (st : Store) : R α := match o with
  | some a => ok a st
  | none => no
end R

inductive Bop where | add | sub | mul | pow | mod | fdiv
  deriving DecidableEq
inductive Cop where | eq | ne | lt | le | gt | ge | is | isnot | inn | notin
  deriving DecidableEq
inductive Bi where | len | int | str | repr | sum | min1 | max1 | min2 | max2 | all | any | list | tuple | dict | sorted
  deriving DecidableEq
inductive Me where | index | indexT | join | split | get1 | get2 | upper | count | values
  deriving DecidableEq
inductive Ty where | int | bool | str | list | tuple | dict | cls (c : Nat)
  deriving DecidableEq
inductive Tg where | nm (i : Nat) | tp (is : List Nat)
  deriving DecidableEq

mutual
inductive Ex where
  | lit (d : D) | var (i : Nat) | glob (k : Nat)
  | bin (op : Bop) (a b : Ex) | neg (a : Ex)
  | cmp (op : Cop) (a b : Ex) | chain (op op' : Cop) (a b c : Ex)
  | andE (a b : Ex) | orE (a b : Ex) | notE (a : Ex) | ifE (t a b : Ex)
  | sub (a i : Ex) | slc (a lo hi : Ex) | rev (a : Ex)
  | lst (es : Exs) | tup (es : Exs) | dic (ks vs : Exs)
  | lc (elt : Ex) (tg : Tg) (it : It) (cond : Ex)
  | lc2 (elt : Ex) (tg : Tg) (it : It) (tg' : Tg) (it' : It) (cond : Ex)
  | dc (k v : Ex) (tg : Tg) (it : It)
  | call (f : Nat) (es : Exs) | mcall (f : Nat) (o : Ex) (es : Exs)
  | bi (b : Bi) (es : Exs) | meth (m : Me) (o : Ex) (es : Exs)
  | isi (a : Ex) (ts : List Ty) | attr (o : Ex) (c k : Nat) | box (a : Ex)
  /-- sorted(a.values()), len(set(a)) -/
  | sv (a : Ex) | ls (a : Ex)
inductive Exs where
  | nil | cons (e : Ex) (es : Exs)
inductive It where
  | ex (e : Ex) | rng1 (a : Ex) | rng2 (a b : Ex) | rng3 (a b c : Ex) | enum (e : Ex) | zip2 (a b : Ex) | zip3 (a b c : Ex) | rev (e : Ex) | items (e : Ex) | vals (e : Ex)
end

inductive Mvs where
  | nil | v (i : Nat) (ms : Mvs) | e (x : Ex) (ms : Mvs)
mutual
inductive Sm where
  | asg (i : Nat) (e : Ex) | asgT (is : List Nat) (e : Ex) | par (is : List Nat) (es : Exs)
  | app (i : Nat) (e : Ex)
  | setI (i : Nat) (k e : Ex) | setH (i : Nat) (k e : Ex) | setD (i : Nat) (k e : Ex) | clr (i : Nat)
  | fld (c k : Nat) (e : Ex)
  | exp (e : Ex) | ret (e : Ex) | retV (i : Nat) | retT (ms : Mvs) | retN | pass
  | ifS (c : Ex) (a b : Sms)
  | forS (tg : Tg) (it : It) (b : Sms) | whileS (c : Ex) (b : Sms) | brk | cnt
  | raise (c : Nat) (es : Exs) | never
inductive Sms where
  | nil | cons (s : Sm) (ss : Sms)
end

/-! ### what the operations give -/
def flatO (d : D) : Own := if flat d then .all else .no
/-- a new list, tuple, dict made of what stands already -/
def newO (xs : List D) : Own := if flatL xs then .all else .top

def nlog (i : Int) : Nat := i.natAbs.log2
def rep {α : Type} (n : Nat) (xs : List α) : List α := (List.replicate n xs).flatten
def maxLen : Nat := 1000000

def binD : Bop → D → D → Option VD
  | .add, .int i, .int j => some (.all, .int (i + j))
  | .add, .str s, .str t => if s.length + t.length ≤ maxLen then some (.all, .str (s ++ t)) else none
  | .add, .lst xs, .lst ys => if xs.length + ys.length ≤ maxLen then some (newO (xs ++ ys), .lst (xs ++ ys)) else none
  | .add, .tup xs, .tup ys => if xs.length + ys.length ≤ maxLen ∧ xs.isEmpty = false ∧ ys.isEmpty = false then some (flatO (.tup (xs ++ ys)), .tup (xs ++ ys)) else none
  | .sub, .int i, .int j => some (.all, .int (i - j))
  | .mul, .int i, .int j => if nlog i + nlog j < 1000000 then some (.all, .int (i * j)) else none
  | .mul, .str s, .int j => if s.length * j.toNat ≤ maxLen ∧ j < 1000000 ∧ -1000000 < j then some (.all, .str (rep j.toNat s)) else none
  | .mul, .lst xs, .int j => if xs.length * j.toNat ≤ maxLen ∧ j < 1000000 ∧ -1000000 < j then some (newO xs, .lst (rep j.toNat xs)) else none
  | .pow, .int i, .int j => if 0 ≤ j ∧ j ≤ 1000 ∧ i.natAbs < 18446744073709551616 then some (.all, .int (i ^ j.toNat)) else none
  | .mod, .int i, .int j => if 0 < j then some (.all, .int (i % j)) else none
  | .fdiv, .int i, .int j => if 0 < j ∧ nlog j < 9000 then some (.all, .int (i / j)) else none
  | _, _, _ => none

mutual
/-- equality of keys: intsOf, texts, tuples of them -/
def keq : D → D → Bool
  | .int i, .int j => i == j
  | .str s, .str t => s == t
  | .tup xs, .tup ys => keqL xs ys
  | _, _ => false
def keqL : List D → List D → Bool
  | [], [] => true
  | x :: xs, y :: ys => keq x y && keqL xs ys
  | _, _ => false
end
def lookD (k : D) : List D → List D → Option D
  | k' :: ks, v :: vs => if keq k' k then some v else lookD k ks vs
  | _, _ => none

/-- all are true, where all are told -/
def allO : List (Option Bool) → Option Bool
  | [] => some true
  | x :: xs => match x, allO xs with
    | some a, some b => some (a && b)
    | _, _ => none
def anyO : List (Option Bool) → Option Bool
  | [] => some false
  | x :: xs => match x, anyO xs with
    | some a, some b => some (a || b)
    | _, _ => none
def zw (f : D → D → Option Bool) : List D → List D → List (Option Bool)
  | x :: xs, y :: ys => f x y :: zw f xs ys
  | _, _ => []
/-- how the values of a dict compare with those under the same keys of another one -/
def zwD (f : D → D → Option Bool) : List D → List D → List D → List D → List (Option Bool)
  | k :: ks, v :: vs, ks', vs' => (match lookD k ks' vs' with | some v' => f v v' | none => some false) :: zwD f ks vs ks' vs'
  | _, _, _, _ => []
/-- equality as Python has it, as deep as n; where a dict stands beside another kind it isn't told -/
def deqN (dk : Bool) : Nat → D → D → Option Bool
  | _, .non, .non => some true
  | _, .bl a, .bl b => some (a == b)
  | _, .bl a, .int j => some ((if a then 1 else 0) == j)
  | _, .int i, .bl b => some (i == (if b then 1 else 0))
  | _, .int i, .int j => some (i == j)
  | _, .str s, .str t => some (s == t)
  | _, .non, .bl _ => some false
  | _, .non, .int _ => some false
  | _, .non, .str _ => some false
  | _, .bl _, .non => some false
  | _, .bl _, .str _ => some false
  | _, .int _, .non => some false
  | _, .int _, .str _ => some false
  | _, .str _, .non => some false
  | _, .str _, .bl _ => some false
  | _, .str _, .int _ => some false
  | _, .lst _, .non => some false
  | _, .lst _, .bl _ => some false
  | _, .lst _, .int _ => some false
  | _, .lst _, .str _ => some false
  | _, .non, .lst _ => some false
  | _, .bl _, .lst _ => some false
  | _, .int _, .lst _ => some false
  | _, .str _, .lst _ => some false
  | _, .tup _, .non => some false
  | _, .tup _, .bl _ => some false
  | _, .tup _, .int _ => some false
  | _, .tup _, .str _ => some false
  | _, .non, .tup _ => some false
  | _, .bl _, .tup _ => some false
  | _, .int _, .tup _ => some false
  | _, .str _, .tup _ => some false
  | _, .lst _, .tup _ => some false
  | _, .tup _, .lst _ => some false
  | n + 1, .lst xs, .lst ys => if xs.length = ys.length then allO (zw (deqN dk n) xs ys) else some false
  | n + 1, .tup xs, .tup ys => if xs.length = ys.length then allO (zw (deqN dk n) xs ys) else (allO (zw (deqN dk n) xs ys)).map fun _ => false
  | n + 1, .dic ks vs, .dic ks' vs' => if dk then (allO (zwD (deqN dk n) ks vs ks' vs')).map fun b => ks.length == ks'.length && b else none
  | _, _, _ => none
def deq : D → D → Option Bool := deqN true 30
/-- .. where no dict stands -/
def deqF : D → D → Option Bool := deqN false 30
def scalarD : D → Bool
  | .non => true
  | .bl _ => true
  | .int _ => true
  | .str _ => true
  | _ => false
/-- the kinds that == itself is told for -/
def topOk : D → D → Bool
  | .lst _, .lst _ => true
  | .tup _, .tup _ => true
  | .dic _ _, .dic _ _ => true
  | .bl _, .int _ => false
  | .int _, .bl _ => false
  | x, y => scalarD x && scalarD y

mutual
/-- data without cells and instances -/
def plainD : D → Bool
  | .ins _ _ => false
  | .hnd _ => false
  | .scr _ => false
  | .lst xs => plainL xs
  | .tup xs => plainL xs
  | .dic ks vs => plainL ks && plainL vs
  | _ => true
def plainL : List D → Bool
  | [] => true
  | x :: xs => plainD x && plainL xs
end

def strLt (s t : List Nat) : Bool := decide (s < t)
def cmpD : Cop → D → D → Option Bool
  | .eq, x, y => if topOk x y then deq x y else none
  | .ne, x, y => if topOk x y then (deq x y).map (!·) else none
  | .lt, .int i, .int j => some (decide (i < j))
  | .le, .int i, .int j => some (decide (i ≤ j))
  | .gt, .int i, .int j => some (decide (j < i))
  | .ge, .int i, .int j => some (decide (j ≤ i))
  | .lt, .str s, .str t => some (strLt s t)
  | .is, .non, .non => some true
  | .is, _, .non => some false
  | .isnot, .non, .non => some false
  | .isnot, _, .non => some true
  | .is, .bl a, .bl b => some (a == b)
  | .isnot, .bl a, .bl b => some (a != b)
  | .inn, x, .lst ys => anyO (ys.map (deqF · x))
  | .notin, x, .lst ys => (anyO (ys.map (deqF · x))).map (!·)
  | .inn, x, .tup ys => anyO (ys.map (deqF · x))
  | .notin, x, .tup ys => (anyO (ys.map (deqF · x))).map (!·)
  | .inn, .str [c], .str t => some (t.contains c)
  | .notin, .str [c], .str t => some (!t.contains c)
  | .inn, .int i, .dic ks _ => some (ks.any (keq · (.int i)))
  | .notin, .int i, .dic ks _ => some (!ks.any (keq · (.int i)))
  | .inn, .str s, .dic ks _ => some (ks.any (keq · (.str s)))
  | .notin, .str s, .dic ks _ => some (!ks.any (keq · (.str s)))
  | _, _, _ => none

def truthD : D → Option Bool
  | .non => some false
  | .bl b => some b
  | .int i => some (i != 0)
  | .str s => if s.length ≤ maxLen then some (!s.isEmpty) else none
  | .lst xs => some (!xs.isEmpty)
  | .tup xs => some (!xs.isEmpty)
  | .dic ks _ => some (!ks.isEmpty)
  | _ => none

/-- the place that an index means in n items -/
def place (i : Int) (n : Nat) : Option Nat :=
  if 0 ≤ i then (if i.toNat < n then some i.toNat else none) else if (-i).toNat ≤ n then some (n - (-i).toNat) else none
def child : Own → Own
  | .all => .all
  | _ => .no
def subD (st : Store) : Own → D → D → Option VD
  | o, .lst xs, .int i => (place i xs.length).bind fun n => xs[n]?.map fun d => (if flat d then .all else child o, d)
  | o, .tup xs, .int i => (place i xs.length).bind fun n => xs[n]?.map fun d => (if flat d then .all else o, d)
  | _, .str s, .int i => if s.length ≤ maxLen then (place i s.length).bind fun n => s[n]?.map fun c => (.all, .str [c]) else none
  | o, .dic ks vs, .int k => (lookD (.int k) ks vs).map fun d => (if flat d then .all else child o, d)
  | o, .dic ks vs, .str k => (lookD (.str k) ks vs).map fun d => (if flat d then .all else child o, d)
  | _, .scr xs, .int i => (place i xs.length).bind fun n => xs[n]?.map fun k => (.all, .int k)
  | _, .hnd n, .int i => match st[n]? with
    | some (.nums xs) => (place i xs.length).bind fun n => xs[n]?.map fun k => (.all, .int k)
    | none => none
  | _, _, _ => none

/-- the bounds of a slice without a step -/
def bnd (d : D) (n dflt : Nat) : Option Nat := match d with
  | .non => some dflt
  | .int i => some (if 0 ≤ i then min i.toNat n else n - (-i).toNat)
  | _ => none
def partOk : D → Bool
  | .non => true
  | .int _ => true
  | _ => false
def cut {α : Type} (xs : List α) (lo hi : Nat) : List α := (xs.take hi).drop lo
def slcD (d lo hi : D) : Option VD := match d with
  | .lst xs => (bnd lo xs.length 0).bind fun a => (bnd hi xs.length xs.length).map fun b => (newO xs, .lst (cut xs a b))
  | .scr xs => (bnd lo xs.length 0).bind fun a => (bnd hi xs.length xs.length).map fun b => (.all, .lst ((cut xs a b).map .int))
  | .str s => if s.length ≤ maxLen then (bnd lo s.length 0).bind fun a => (bnd hi s.length s.length).map fun b => (.all, .str (cut s a b)) else none
  | _ => none
def revD : D → Option VD
  | .lst xs => some (newO xs, .lst xs.reverse)
  | .str s => if s.length ≤ maxLen then some (.all, .str s.reverse) else none
  | _ => none

def intsOf : List D → Option (List Int)
  | [] => some []
  | .int i :: xs => (intsOf xs).map (i :: ·)
  | _ => none
def boolsOf : List D → Option (List Bool)
  | [] => some []
  | .bl b :: xs => (boolsOf xs).map (b :: ·)
  | _ => none
def strsOf : List D → Option (List (List Nat))
  | [] => some []
  | .str s :: xs => (strsOf xs).map (s :: ·)
  | _ => none
def joinS (sep : List Nat) : List (List Nat) → List Nat
  | [] => []
  | [x] => x
  | x :: xs => x ++ sep ++ joinS sep xs
/-- the items' equality with x, where it is told -/
def toldB (x : D) : List D → Option (List Bool)
  | [] => some []
  | y :: ys => (deqF y x).bind fun b => (toldB x ys).map (b :: ·)
/-- the first place of a true one -/
def firstT : List Bool → Option Nat
  | [] => none
  | b :: bs => if b = true then some 0 else (firstT bs).map (· + 1)
/-- the first place of x -/
def findIx (x : D) (ys : List D) : Option Nat := (toldB x ys).bind firstT
def digitsN (n : Nat) : List Nat := (toString n).toList.map Char.toNat
def digits (i : Int) : List Nat := (toString i).toList.map Char.toNat
/-- d[k] = v -/
def replD (k v : D) : List D → List D → List D
  | k' :: ks, v' :: vs => (if keq k' k then v else v') :: replD k v ks vs
  | _, vs => vs
def putD (k v : D) (ks vs : List D) : List D × List D := if ks.any (keq · k) then (ks, replD k v ks vs) else (ks ++ [k], vs ++ [v])
def isKey : D → Bool
  | .int _ => true
  | .str _ => true
  | _ => false
def putAll : List D → List D → List D × List D → List D × List D
  | k :: ks, v :: vs, acc => putAll ks vs (putD k v acc.1 acc.2)
  | _, _, acc => acc
def ofPairs : List D → List D × List D → Option (List D × List D)
  | [], acc => some acc
  | .tup [k, v] :: r, acc => if isKey k then ofPairs r (putD k v acc.1 acc.2) else none
  | _, _ => none
def insertI (i : Int) : List Int → List Int
  | [] => [i]
  | j :: js => if i ≤ j then i :: j :: js else j :: insertI i js
def sortI (xs : List Int) : List Int := xs.foldr insertI []
/-- the least of tuples (int, text) and of intsOf -/
def leD : D → D → Bool
  | .int i, .int j => decide (i ≤ j)
  | .tup [.int i, .str s], .tup [.int j, .str t] => decide (i < j) || (decide (i = j) && (s == t || strLt s t))
  | _, _ => false
def isPairIS : D → Bool
  | .tup [.int _, .str _] => true
  | _ => false
def foldMin (le : D → D → Bool) : D → List D → D
  | m, [] => m
  | m, x :: xs => foldMin le (if le m x then m else x) xs

structure Env where
  cal : Nat → List D → Store → R VD
  gl : List D
  lenF : Nat → Option Nat
  rp : D → Option (List Nat)
  /-- a method's class; the classes that are told of -/
  mc : Nat → Option Nat
  kc : Nat → Bool
mutual
/-- more than the length of what repr gives -/
def wt : D → Nat
  | .int i => i.natAbs.log2 + 4
  | .str s => 10 * s.length + 2
  | .lst xs => 2 + wtL xs
  | .tup xs => 3 + wtL xs
  | .dic ks vs => 2 + wtL ks + wtL vs
  | _ => 5
def wtL : List D → Nat
  | [] => 0
  | x :: xs => 2 + wt x + wtL xs
end

/-- digits of a text to a number -/
def numOf (s : List Nat) : Option Nat := if s.isEmpty then none else s.foldl (fun a c => a.bind fun n => if 48 ≤ c ∧ c ≤ 57 then some (10 * n + (c - 48)) else none) (some 0)

def biD (env : Env) (st : Store) : Bi → List D → R VD
  | .len, [.str s] => if s.length ≤ maxLen then .ok (.all, .int s.length) st else .no
  | .len, [.lst xs] => .ok (.all, .int xs.length) st
  | .len, [.tup xs] => .ok (.all, .int xs.length) st
  | .len, [.scr xs] => .ok (.all, .int xs.length) st
  | .len, [.dic ks _] => .ok (.all, .int ks.length) st
  | .len, [.ins c fs] => match env.lenF c with
    | some f => (env.cal f [.ins c fs] st).bind fun v st => match v.2 with
      | .int i => if 0 ≤ i ∧ i < 1000000000 then .ok (.all, .int i) st else .no
      | _ => .no
    | none => .no
  | .int, [.int i] => .ok (.all, .int i) st
  | .int, [.bl b] => .ok (.all, .int (if b then 1 else 0)) st
  | .repr, [d] => .of ((env.rp d).map fun t => (.all, .str t)) st
  | .str, [.str s] => .ok (.all, .str s) st
  | .str, [.int i] => .of ((env.rp (.int i)).map fun t => (.all, .str t)) st
  | .sum, [.lst xs] => .of ((intsOf xs).map fun l => (.all, .int l.sum)) st
  | .max2, [.int i, .int j] => .ok (.all, .int (if j > i then j else i)) st
  | .min2, [.int i, .int j] => .ok (.all, .int (if j < i then j else i)) st
  | .all, [.lst xs] => .of ((boolsOf xs).map fun l => (.all, .bl (l.all id))) st
  | .any, [.lst xs] => .of ((boolsOf xs).map fun l => (.all, .bl (l.any id))) st
  | .list, [.lst xs] => .ok (newO xs, .lst xs) st
  | .list, [.tup xs] => .ok (newO xs, .lst xs) st
  | .list, [.str s] => if s.length ≤ maxLen then .ok (.all, .lst (s.map fun c => .str [c])) st else .no
  | .tuple, [.lst xs] => .ok (flatO (.tup xs), .tup xs) st
  | .tuple, [.tup xs] => .ok (flatO (.tup xs), .tup xs) st
  | .tuple, [.str s] => if s.length ≤ maxLen then .ok (.all, .tup (s.map fun c => .str [c])) st else .no
  | _, _ => .no
def meD : Me → D → List D → Option VD
  | .index, .lst xs, [x] => if xs.length ≤ maxLen then (findIx x xs).map fun (n : Nat) => (Own.all, D.int (n : Int)) else none
  | .indexT, .tup xs, [x] => if xs.length ≤ maxLen then (findIx x xs).map fun (n : Nat) => (Own.all, D.int (n : Int)) else none
  | .index, .str s, [.str [c]] => if s.length ≤ maxLen then (firstT (s.map (· == c))).map fun (n : Nat) => (Own.all, D.int (n : Int)) else none
  | .upper, .str s, [] => if s.length ≤ maxLen ∧ s.all (fun c => decide (c < 128)) then some (.all, .str (s.map fun c => if 97 ≤ c ∧ c ≤ 122 then c - 32 else c)) else none
  | .join, .str s, [.lst xs] => (strsOf xs).bind fun l => if (joinS s l).length ≤ maxLen ∧ s.length ≤ maxLen then some (.all, .str (joinS s l)) else none
  | .get2, .dic ks vs, [k, d] => if isKey k then (match lookD k ks vs with
    | some v => some (flatO v, v)
    | none => some (flatO d, d)) else none
  | _, _, _ => none
/-- the receivers of a method -/
def meOk : Me → D → Bool
  | .index, .lst _ => true
  | .index, .str _ => true
  | .indexT, .tup _ => true
  | .upper, .str _ => true
  | .join, .str _ => true
  | .get2, .dic _ _ => true
  | _, _ => false
def tyD : Ty → D → Bool
  | .int, .int _ => true
  | .int, .bl _ => true
  | .bool, .bl _ => true
  | .str, .str _ => true
  | .list, .lst _ => true
  | .tuple, .tup _ => true
  | .dict, .dic _ _ => true
  | .cls c, .ins c' _ => c == c'
  | _, _ => false

/-- what isinstance is told of -/
def tyOk (kc : Nat → Bool) : D → Bool
  | .hnd _ => false
  | .scr _ => false
  | .ins c _ => kc c
  | _ => true
def insOf : Option Nat → D → Bool
  | some c, .ins c' _ => c == c'
  | _, _ => false

def svD : D → Option VD
  | .dic _ vs => (intsOf vs).bind fun l => if l.length < 64 then some (.all, .lst ((sortI l).map .int)) else none
  | _ => none
/-- how many different texts -/
def diffN : List (List Nat) → Nat
  | [] => 0
  | x :: xs => (if xs.contains x then 0 else 1) + diffN xs
def lsD : D → Option VD
  | .lst xs => (strsOf xs).bind fun l => if l.length ≤ 2000 then some (.all, .int (diffN l)) else none
  | .str s => if s.length ≤ 2000 then some (.all, .int (diffN (s.map fun c => [c]))) else none
  | _ => none
abbrev Rho := List (Option D)
/-- values to names -/
def setsR : List Nat → List D → Rho → Rho
  | i :: is, d :: ds, r => setsR is ds (r.set i (some d))
  | _, _, r => r
def bindTg (tg : Tg) (d : D) (r : Rho) : Option Rho := match tg with
  | .nm i => some (setsR [i] [d] r)
  | .tp is => match d with
    | .tup ds => if is.length = ds.length then some (setsR is ds r) else none
    | _ => none
def intRange (lo : Int) : Nat → List D
  | 0 => []
  | n + 1 => .int lo :: intRange (lo + 1) n
def rangeD (lo hi : Int) : List D := intRange lo (hi - lo).toNat
def enumD (n : Int) : List D → List D
  | [] => []
  | x :: xs => .tup [.int n, x] :: enumD (n + 1) xs
def zip2D : List D → List D → List D
  | x :: xs, y :: ys => .tup [x, y] :: zip2D xs ys
  | _, _ => []
def zip3D : List D → List D → List D → List D
  | x :: xs, y :: ys, z :: zs => .tup [x, y, z] :: zip3D xs ys zs
  | _, _, _ => []
def seqD : D → Option (List D)
  | .lst xs => some xs
  | .tup xs => some xs
  | .str s => some (s.map fun c => .str [c])
  | _ => none
def seqE : D → Option (List D)
  | .lst xs => some xs
  | .tup xs => some xs
  | .str s => some (s.map fun c => .str [c])
  | _ => none
def small (i : Int) : Bool := decide (-1000000000 < i) && decide (i < 1000000000)

/-- a turn of a list comprehension -/
def lcF (tg : Tg) (r : Rho) (c e : Rho → Store → R VD) (x : D) (st : Store) : R (Option VD) := match bindTg tg x r with
  | some r' => (c r' st).noX.bind fun b st => match truthD b.2 with
    | some true => (e r' st).noX.bind fun v st => .ok (some v) st
    | some false => .ok none st
    | none => .no
  | none => .no
/-- a turn of a dict comprehension -/
def dcF (tg : Tg) (r : Rho) (k v : Rho → Store → R VD) (x : D) (st : Store) : R (D × VD) := match bindTg tg x r with
  | some r' => (k r' st).noX.bind fun kk st => (v r' st).noX.bind fun vv st => .ok (kk.2, vv) st
  | none => .no
/-- go through items, gathering what body gives -/
def gather (f : D → Store → R (Option VD)) : List D → List D → Own → Store → R VD
  | [], acc, o, st => .ok (o, .lst acc.reverse) st
  | x :: xs, acc, o, st => (f x st).bind fun v st => match v with
    | some (o', d) => gather f xs (d :: acc) (if o = .all ∧ o' = .all then .all else .top) st
    | none => gather f xs acc o st
/-- the inner walk of two: k goes on behind it -/
def gatherI (h : D → Store → R (Option VD)) : List D → List D → Own → Store → (List D → Own → Store → R VD) → R VD
  | [], acc, o, st, k => k acc o st
  | y :: ys, acc, o, st, k => if maxLen ≤ acc.length then .no else (h y st).bind fun v st => match v with
    | some (o', d) => gatherI h ys (d :: acc) (if o = .all ∧ o' = .all then .all else .top) st k
    | none => gatherI h ys acc o st k
def gather2 (f : D → Store → R (Rho × List D)) (g : Rho → D → Store → R (Option VD)) : List D → List D → Own → Store → R VD
  | [], acc, o, st => .ok (o, .lst acc.reverse) st
  | x :: xs, acc, o, st => (f x st).bind fun p st => gatherI (g p.1) p.2 acc o st fun acc o st => gather2 f g xs acc o st
/-- a turn of the outer walk -/
def lcG (tg : Tg) (r : Rho) (i : Rho → Store → R (List D)) (x : D) (st : Store) : R (Rho × List D) := match bindTg tg x r with
  | some r' => (i r' st).noX.bind fun ys st => .ok (r', ys) st
  | none => .no
def gatherD (f : D → Store → R (D × VD)) : List D → List D → List D → Own → Store → R VD
  | [], ks, vs, o, st => .ok (o, .dic ks vs) st
  | x :: xs, ks, vs, o, st => (f x st).bind fun p st => if isKey p.1 = true ∧ flat p.2.2 = true then
      gatherD f xs (putD p.1 p.2.2 ks vs).1 (putD p.1 p.2.2 ks vs).2 o st else .no

mutual
def evE (env : Env) : Ex → Rho → Store → R VD
  | .lit d, _, st => .ok (.all, d) st
  | .var i, r, st => match r[i]? with
    | some (some d) => .ok (flatO d, d) st
    | _ => .no
  | .glob k, _, st => match env.gl[k]? with
    | some d => .ok (flatO d, d) st
    | none => .no
  | .bin op a b, r, st => (evE env a r st).bind fun x st => (evE env b r st).bind fun y st => .of (binD op x.2 y.2) st
  | .neg a, r, st => (evE env a r st).bind fun x st => match x.2 with
    | .int i => .ok (.all, .int (-i)) st
    | _ => .no
  | .cmp op a b, r, st => (evE env a r st).bind fun x st => (evE env b r st).bind fun y st => .of ((cmpD op x.2 y.2).map fun c => (.all, .bl c)) st
  | .chain op op' a b c, r, st => (evE env a r st).bind fun x st => (evE env b r st).bind fun y st => match cmpD op x.2 y.2 with
    | some true => (evE env c r st).bind fun z st => .of ((cmpD op' y.2 z.2).map fun c => (.all, .bl c)) st
    | some false => .ok (.all, .bl false) st
    | none => .no
  | .andE a b, r, st => (evE env a r st).bind fun x st => match truthD x.2 with
    | some true => evE env b r st
    | some false => .ok x st
    | none => .no
  | .orE a b, r, st => (evE env a r st).bind fun x st => match truthD x.2 with
    | some false => evE env b r st
    | some true => .ok x st
    | none => .no
  | .notE a, r, st => (evE env a r st).bind fun x st => .of ((truthD x.2).map fun c => (.all, .bl (!c))) st
  | .ifE t a b, r, st => (evE env t r st).bind fun x st => match truthD x.2 with
    | some true => evE env a r st
    | some false => evE env b r st
    | none => .no
  | .sub a i, r, st => (evE env a r st).bind fun x st => (evE env i r st).bind fun y st => .of (subD st x.1 x.2 y.2) st
  | .slc a lo hi, r, st => (evE env a r st).bind fun x st => (evE env lo r st).bind fun y st => if partOk y.2 then (evE env hi r st).bind fun z st => .of (slcD x.2 y.2 z.2) st else .no
  | .rev a, r, st => (evE env a r st).bind fun x st => .of (revD x.2) st
  | .lst es, r, st => (evEs env es r st).bind fun xs st => .ok (if xs.1 then .all else .top, .lst xs.2) st
  | .tup es, r, st => (evEs env es r st).bind fun xs st => .ok (if xs.1 then .all else flatO (.tup xs.2), .tup xs.2) st
  | .dic ks vs, r, st => (evEs env ks r st).bind fun kk st => (evEs env vs r st).bind fun vv st => if kk.2.all isKey ∧ kk.2.length = vv.2.length then
      .ok (if vv.1 then .all else .top, let p := putAll kk.2 vv.2 ([], []); .dic p.1 p.2) st else .no
  | .lc elt tg it cond, r, st => (evIt env it r st).bind fun xs st => if maxLen < xs.length then .no else gather (lcF tg r (evE env cond) (evE env elt)) xs [] .all st
  | .lc2 elt tg it tg' it' cond, r, st => (evIt env it r st).bind fun xs st => gather2 (lcG tg r (evIt env it')) (fun r' => lcF tg' r' (evE env cond) (evE env elt)) xs [] .all st
  | .dc k v tg it, r, st => (evIt env it r st).bind fun xs st => if maxLen < xs.length then .no else gatherD (dcF tg r (evE env k) (evE env v)) xs [] [] .all st
  | .call f es, r, st => (evEs env es r st).bind fun xs st => env.cal f xs.2 st
  | .mcall f o es, r, st => (evE env o r st).bind fun x st => if insOf (env.mc f) x.2 then (evEs env es r st).bind fun xs st => env.cal f (x.2 :: xs.2) st else .no
  | .bi b es, r, st => (evEs env es r st).bind fun xs st => biD env st b xs.2
  | .meth m o es, r, st => (evE env o r st).bind fun x st => if meOk m x.2 then (evEs env es r st).bind fun xs st => .of (meD m x.2 xs.2) st else .no
  | .isi a ts, r, st => (evE env a r st).bind fun x st => if tyOk env.kc x.2 then .ok (.all, .bl (ts.any (tyD · x.2))) st else .no
  | .attr o c k, r, st => (evE env o r st).bind fun x st => match x.2 with
    | .ins c' fs => if c' = c then match fs[k]? with
        | some d => .ok (if flat d then .all else .no, d) st
        | none => .no
      else .no
    | _ => .no
  | .sv a, r, st => (evE env a r st).bind fun x st => .of (svD x.2) st
  | .ls a, r, st => (evE env a r st).bind fun x st => .of (lsD x.2) st
  | .box a, r, st => (evE env a r st).bind fun x st => match x with
    | (.all, .lst xs) => match intsOf xs with
      | some l => .ok (.all, .hnd st.length) (st ++ [.nums l])
      | none => .no
    | _ => .no
def evEs (env : Env) : Exs → Rho → Store → R (Bool × List D)
  | .nil, _, st => .ok (true, []) st
  | .cons e es, r, st => (evE env e r st).bind fun x st => (evEs env es r st).bind fun xs st => .ok (x.1 == .all && xs.1, x.2 :: xs.2) st
def evIt (env : Env) : It → Rho → Store → R (List D)
  | .ex e, r, st => (evE env e r st).bind fun x st => .of (seqD x.2) st
  | .rng1 a, r, st => (evE env a r st).bind fun x st => match x.2 with
    | .int i => if small i then .ok (rangeD 0 i) st else .no
    | _ => .no
  | .rng2 a b, r, st => (evE env a r st).bind fun x st => (evE env b r st).bind fun y st => match x.2, y.2 with
    | .int i, .int j => if small i && small j then .ok (rangeD i j) st else .no
    | _, _ => .no
  | .rng3 _ _ _, _, _ => .no
  | .enum e, r, st => (evE env e r st).bind fun x st => .of ((seqE x.2).map (enumD 0)) st
  | .zip2 a b, r, st => (evE env a r st).bind fun x st => (evE env b r st).bind fun y st => .of ((seqD x.2).bind fun xs => (seqD y.2).map fun ys => zip2D xs ys) st
  | .zip3 a b c, r, st => (evE env a r st).bind fun x st => (evE env b r st).bind fun y st => (evE env c r st).bind fun z st =>
      .of ((seqD x.2).bind fun xs => (seqD y.2).bind fun ys => (seqD z.2).map fun zs => zip3D xs ys zs) st
  | .rev e, r, st => (evE env e r st).bind fun x st => .of ((seqD x.2).map List.reverse) st
  | .items _, _, _ => .no
  | .vals _, _, _ => .no
end

/-! ### statements -/
mutual
/-- the names that an expression reads -/
def exV : Ex → List Nat
  | .var i => [i]
  | .bin _ a b => exV a ++ exV b
  | .neg a => exV a
  | .cmp _ a b => exV a ++ exV b
  | .chain _ _ a b c => exV a ++ (exV b ++ exV c)
  | .andE a b => exV a ++ exV b
  | .orE a b => exV a ++ exV b
  | .notE a => exV a
  | .ifE t a b => exV t ++ (exV a ++ exV b)
  | .sub a i => exV a ++ exV i
  | .slc a lo hi => exV a ++ (exV lo ++ exV hi)
  | .rev a => exV a
  | .lst es => exVs es
  | .tup es => exVs es
  | .dic ks vs => exVs ks ++ exVs vs
  | .lc elt _ it c => itV it ++ (exV c ++ exV elt)
  | .lc2 elt _ it _ it' c => itV it ++ (itV it' ++ (exV c ++ exV elt))
  | .dc k v _ it => itV it ++ (exV k ++ exV v)
  | .call _ es => exVs es
  | .mcall _ o es => exV o ++ exVs es
  | .bi _ es => exVs es
  | .meth _ o es => exV o ++ exVs es
  | .isi a _ => exV a
  | .attr o _ _ => exV o
  | .box a => exV a
  | .sv a => exV a
  | .ls a => exV a
  | _ => []
def exVs : Exs → List Nat
  | .nil => []
  | .cons e es => exV e ++ exVs es
def itV : It → List Nat
  | .ex e => exV e
  | .rng1 a => exV a
  | .rng2 a b => exV a ++ exV b
  | .rng3 a b c => exV a ++ (exV b ++ exV c)
  | .enum e => exV e
  | .zip2 a b => exV a ++ exV b
  | .zip3 a b c => exV a ++ (exV b ++ exV c)
  | .rev e => exV e
  | .items e => exV e
  | .vals e => exV e
end

abbrev SRho := List (Option VD)
def view (r : SRho) : Rho := r.map fun s => s.map Prod.snd
def frz1 (i : Nat) (r : SRho) : SRho := match r[i]? with
  | some (some (_, d)) => r.set i (some (flatO d, d))
  | _ => r
/-- the names' trees are no longer one's own -/
def frz (is : List Nat) (r : SRho) : SRho := is.foldl (fun r i => frz1 i r) r
def put (i : Nat) (v : VD) (r : SRho) : SRho := r.set i (some v)
inductive Fl where
  | next (r : SRho) | ret (v : VD) | brk (r : SRho) | cnt (r : SRho)
/-- .. unless what was made of them is all new -/
def fz (o : Own) (is : List Nat) (r : SRho) : SRho := if o = .all then r else frz is r

/-- the turns of a while -/
def loopW (c : SRho → Store → R VD) (f : SRho → Store → R Fl) : Nat → SRho → Store → R Fl
  | 0, _, _ => .no
  | n + 1, r, st => (c r st).bind fun x st => match truthD x.2 with
    | some true => (f r st).bind fun fl st => match fl with
      | .next r => loopW c f n r st
      | .cnt r => loopW c f n r st
      | .brk r => .ok (.next r) st
      | .ret v => .ok (.ret v) st
    | some false => .ok (.next r) st
    | none => .no
/-- the own parts of a tree's items -/
def putsT (o : Own) : List Nat → List D → SRho → Option SRho
  | [], [], r => some r
  | i :: is, d :: ds, r => putsT o is ds (put i (if flat d then .all else o, d) r)
  | _, _, _ => none
def puts : List Nat → List D → SRho → Option SRho
  | [], [], r => some r
  | i :: is, d :: ds, r => puts is ds (put i (flatO d, d) r)
  | _, _, _ => none
def bindS (tg : Tg) (d : D) (r : SRho) : Option SRho := match tg with
  | .nm i => puts [i] [d] r
  | .tp is => match d with
    | .tup ds => puts is ds r
    | _ => none
/-- the turns of a for -/
def loopF (tg : Tg) (f : SRho → Store → R Fl) : List D → SRho → Store → R Fl
  | [], r, st => .ok (.next r) st
  | x :: xs, r, st => match bindS tg x r with
    | none => .no
    | some r' => (f r' st).bind fun fl st => match fl with
      | .next r => loopF tg f xs r st
      | .cnt r => loopF tg f xs r st
      | .brk r => .ok (.next r) st
      | .ret v => .ok (.ret v) st
def evMv (env : Env) : Mvs → SRho → Store → R (Bool × List D)
  | .nil, _, st => .ok (true, []) st
  | .v i ms, r, st => match r[i]? with
    | some (some (o, d)) => (evMv env ms (r.set i none) st).bind fun xs st => .ok ((o == .all || flat d) && xs.1, d :: xs.2) st
    | _ => .no
  | .e x ms, r, st => (evE env x (view r) st).bind fun v st => (evMv env ms (fz v.1 (exV x) r) st).bind fun xs st => .ok (v.1 == .all && xs.1, v.2 :: xs.2) st

mutual
def evS (env : Env) (wf : Nat) : Sm → SRho → Store → R Fl
  | .asg i e, r, st => (evE env e (view r) st).bind fun v st => .ok (.next (put i v (fz v.1 (exV e) r))) st
  | .asgT is e, r, st => (evE env e (view r) st).bind fun v st => match v.2 with
    | .tup ds => match putsT v.1 is ds (fz v.1 (exV e) r) with
      | some r' => .ok (.next r') st
      | none => .no
    | _ => .no
  | .par is es, r, st => (evEs env es (view r) st).bind fun vs st => match (if vs.1 then putsT .all is vs.2 r else puts is vs.2 (frz (exVs es) r)) with
    | some r' => .ok (.next r') st
    | none => .no
  | .app i e, r, st => match r[i]? with
    | some (some (o, .lst xs)) => if o ≠ .no ∧ xs.length < maxLen then (evE env e (view r) st).bind fun v st => if v.1 ≠ .all ∧ i ∈ exV e then .no else
        .ok (.next (put i (if v.1 = .all then o else .top, .lst (xs ++ [v.2])) (fz v.1 (exV e) r))) st else .no
    | _ => .no
  | .setI i k e, r, st => match r[i]? with
    | some (some (o, .lst xs)) => if o ≠ .no then (evE env e (view r) st).bind fun v st => if v.1 ≠ .all ∧ i ∈ exV e then .no else (evE env k (view r) st).bind fun kv st => match kv.2 with
        | .int j => match place j xs.length with
          | some n => .ok (.next (put i (if v.1 = .all then o else .top, .lst (xs.set n v.2)) (fz v.1 (exV e) r))) st
          | none => .no
        | _ => .no
      else .no
    | _ => .no
  | .setH i k e, r, st => match r[i]? with
    | some (some (_, .hnd n)) => (evE env e (view r) st).bind fun v st => (evE env k (view r) st).bind fun kv st => match kv.2, v.2 with
      | .int j, .int z => match st[n]? with
        | some (.nums xs) => match place j xs.length with
          | some m => .ok (.next r) (st.set n (.nums (xs.set m z)))
          | none => .no
        | none => .no
      | _, _ => .no
    | _ => .no
  | .setD i k e, r, st => match r[i]? with
    | some (some (o, .dic ks vs)) => if o ≠ .no then (evE env e (view r) st).bind fun v st => if v.1 = .all ∧ flat v.2 = true ∧ flatL vs = true ∧ ks.length < maxLen then (evE env k (view r) st).bind fun kv st => if isKey kv.2 then
        .ok (.next (put i (o, .dic (putD kv.2 v.2 ks vs).1 (putD kv.2 v.2 ks vs).2) r)) st else .no else .no else .no
    | _ => .no
  | .clr i, r, st => match r[i]? with
    | some (some (o, .lst _)) => if o ≠ .no then .ok (.next (put i (.all, .lst []) r)) st else .no
    | _ => .no
  | .fld cc k e, r, st => (evE env e (view r) st).bind fun v st => if v.1 ≠ .all ∧ 0 ∈ exV e then .no else match (r[0]? : Option (Option VD)) with
    | some (some (o, .ins c fs)) => if o ≠ .no ∧ k = fs.length ∧ c = cc then
        .ok (.next (put 0 (if v.1 = .all then o else .top, .ins c (fs ++ [v.2])) (fz v.1 (exV e) r))) st else .no
    | _ => .no
  | .exp e, r, st => (evE env e (view r) st).bind fun _ st => .ok (.next r) st
  | .ret e, r, st => (evE env e (view r) st).bind fun v st => .ok (.ret v) st
  | .retV i, r, st => match r[i]? with
    | some (some v) => .ok (.ret v) st
    | _ => .no
  | .retT ms, r, st => (evMv env ms r st).bind fun xs st => .ok (.ret (if xs.1 then .all else flatO (.tup xs.2), .tup xs.2)) st
  | .retN, _, st => .ok (.ret (.all, .non)) st
  | .pass, r, st => .ok (.next r) st
  | .ifS c a b, r, st => (evE env c (view r) st).bind fun x st => match truthD x.2 with
    | some true => evSs env wf a r st
    | some false => evSs env wf b r st
    | none => .no
  | .forS tg it b, r, st => (evIt env it (view r) st).bind fun xs st => loopF tg (evSs env wf b) xs (frz (itV it) r) st
  | .whileS c b, r, st => loopW (fun r st => evE env c (view r) st) (fun r st => evSs env wf b r st) wf r st
  | .brk, r, st => .ok (.brk r) st
  | .cnt, r, st => .ok (.cnt r) st
  | .raise c es, r, st => (evEs env es (view r) st).bind fun xs st => .exc c xs.2 st
  | .never, _, _ => .no
def evSs (env : Env) (wf : Nat) : Sms → SRho → Store → R Fl
  | .nil, r, st => .ok (.next r) st
  | .cons s ss, r, st => (evS env wf s r st).bind fun fl st => match fl with
    | .next r => evSs env wf ss r st
    | fl => .ok fl st
end

/-! ### defs -/
structure Fn where
  np : Nat
  ns : Nat
  ini : Option Nat
  body : Sms
structure Pr where
  fns : List Fn
  gl : List D
  lenF : Nat → Option Nat
  rp : D → Option (List Nat)
  mc : Nat → Option Nat
  kc : Nat → Bool
  wf : Nat
def startS (ns : Nat) (ds : List D) : SRho := ds.map (fun d => some (flatO d, d)) ++ List.replicate (ns - ds.length) none
def fin : R Fl → R VD
  | .ok (.next _) st => .ok (.all, .non) st
  | .ok (.ret v) st => .ok v st
  | .exc c ds st => .exc c ds st
  | _ => .no
/-- behind an __init__: the instance -/
def finI : R Fl → R VD
  | .ok (.next r) st => match r[0]? with
    | some (some v) => .ok v st
    | _ => .no
  | .exc c ds st => .exc c ds st
  | _ => .no
def run (P : Pr) : Nat → Nat → List D → Store → R VD
  | 0, _, _, _ => .no
  | n + 1, f, ds, st => match P.fns[f]? with
    | none => .no
    | some F => match F.ini with
      | none => if ds.length = F.np then fin (evSs ⟨run P n, P.gl, P.lenF, P.rp, P.mc, P.kc⟩ P.wf F.body (startS F.ns ds) st) else .no
      | some c => if ds.length + 1 = F.np then finI (evSs ⟨run P n, P.gl, P.lenF, P.rp, P.mc, P.kc⟩ P.wf F.body (put 0 (.all, .ins c []) (startS F.ns (.non :: ds))) st) else .no
abbrev Pr.env (P : Pr) (n : Nat) : Env := ⟨run P n, P.gl, P.lenF, P.rp, P.mc, P.kc⟩
end PD
/-! DRep: what a value of the model stands for which tree -/
namespace PD
open PySem L2

def toStr (s : List Nat) : Str := ⟨s.toArray⟩
/-- a class of the text: its address, whether it has slots, the places of its fields -/
structure ClsE where
  C : Addr
  slotted : Bool
  names : List Str
  place : Nat → Nat
abbrev CTab := Nat → ClsE

/-- the second way to read a tuple: it is the module's own -/
def KT (K : PySem.W.Frag) (a : Addr) (xs : List V) : Prop :=
  ∃ (o : Obj) (its : Array Value) (n : Nat), K.lookup a = some o ∧ o.cls = .type "tuple" ∧ o.data = .seq its n ∧ its.size ≤ sizeLine ∧ Vals xs its.toList ∧ o.dict = none
def TupAt (K : PySem.W.Frag) (α : List Addr) (H : Hp) (a : Addr) (xs : List V) : Prop := (Rd H a (.tup xs) ∧ a ∉ α) ∨ KT K a xs
/-- the script: the module's own, or locked -/
def ScrAt (K : PySem.W.Frag) (α : List Addr) (G : Addr → Prop) (H : Hp) (a : Addr) (xs : List Int) : Prop :=
  (Rd H a (.lst (xs.map V.int)) ∧ a ∉ α ∧ G a) ∨ ∃ (o : Obj) (its : Array Value) (n : Nat), K.lookup a = some o ∧ o.cls = .type "list" ∧ o.dict = none ∧ o.data = .seq its n ∧ its.size ≤ sizeLine ∧ Vals (xs.map V.int) its.toList
/-- an instance of the class c at a (its dict at dx): its fields' values, in order -/
def InsAt (CT : CTab) (H : Hp) (c : Nat) (a dx : Addr) (us : List V) : Prop :=
  if (CT c).slotted = true then ∃ vs : List (Option V), SlX.Slt H a (CT c).C dx vs ∧ (H dx = some (.own a) ∨ H dx = some (.xd [])) ∧ ∀ k u, us[k]? = some u → vs[(CT c).place k]? = some (some u)
  else H a = some (.ins (CT c).C dx ((CT c).names.zip us)) ∧ us.length ≤ (CT c).names.length
/-- a key -/
def keyR : D → Key → Prop
  | .int i, k => k = .inl i
  | .str s, k => k = .inr (toStr s)
  | _, _ => False
def keysR : List D → List Key → Prop
  | [], ks => ks = []
  | d :: ds, ks => ∃ k r, ks = k :: r ∧ keyR d k ∧ keysR ds r

section
variable (K : PySem.W.Frag) (CT : CTab) (α : List Addr)
mutual
def Rep (G : Addr → Prop) (H : Hp) : D → Own → V → List Addr → Prop
  | .non, _, v, os => v = .non ∧ os = []
  | .bl b, _, v, os => v = .bl b ∧ os = []
  | .int i, _, v, os => v = .int i ∧ os = []
  | .str s, _, v, os => v = .str (toStr s) ∧ os = []
  | .hnd n, _, v, os => (∃ a, α[n]? = some a ∧ v = .ref a) ∧ os = []
  | .scr xs, o, v, os => (∃ a, v = .ref a ∧ ScrAt K α G H a xs) ∧ os = [] ∧ o = .no
  | .tup xs, o, v, os => ∃ a vs, v = .ref a ∧ TupAt K α H a vs ∧ RepL G H xs o vs os
  | .lst xs, o, v, os => ∃ a vs os', v = .ref a ∧ a ∉ α ∧ RepL G H xs (child o) vs os' ∧
      (if o = .no then G a ∧ H a = some (.lst vs) ∧ os = os' else H a = some (.lst vs) ∧ os = a :: os')
  | .dic ks ds, o, v, os => ∃ a kvs os', v = .ref a ∧ a ∉ α ∧ keysR ks (kvs.map Prod.fst) ∧ RepL G H ds (child o) (kvs.map Prod.snd) os' ∧
      (if o = .no then G a ∧ Rd H a (.dK kvs) ∧ os = os' else H a = some (.dK kvs) ∧ os = a :: os')
  | .ins c fs, o, v, os => ∃ a dx us os', v = .ref a ∧ a ∉ α ∧ dx ∉ α ∧ a ≠ dx ∧ (∃ u, H a = some u) ∧ (∃ u, H dx = some u) ∧ InsAt CT H c a dx us ∧ RepL G H fs (child o) us os' ∧
      (if o = .no then G a ∧ G dx ∧ os = os' else os = a :: dx :: os')
def RepL (G : Addr → Prop) (H : Hp) : List D → Own → List V → List Addr → Prop
  | [], _, vs, os => vs = [] ∧ os = []
  | d :: ds, o, vs, os => ∃ v r os1 os2, vs = v :: r ∧ os = os1 ++ os2 ∧ Rep G H d o v os1 ∧ RepL G H ds o r os2
end
end

section
variable {K : PySem.W.Frag} {CT : CTab} {α α' : List Addr} {G G' : Addr → Prop} {H H' : Hp}
theorem TupAt.sqT {a : Addr} {xs : List V} (h : TupAt K α H a xs) : SqT K H a xs := h.elim (fun h => .inl h.1) fun ⟨o, its, n, h1, h2, h3, h4, h5, _⟩ => .inr ⟨o, its, n, h1, h2, h3, h4, h5⟩
theorem Rd.tracked {a : Addr} {u : HO} (h : Rd H a u) : ∃ x, H a = some x := h.elim (fun h => ⟨_, h⟩) fun ⟨_, h⟩ => ⟨_, h⟩

/-- what is kept from one heap to another: all that is tracked but the cells; the new cells are new -/
structure Ext (α : List Addr) (H : Hp) (α' : List Addr) (H' : Hp) : Prop where
  kp : ∀ a u, a ∉ α → H a = some u → H' a = some u
  al : ∃ β, α' = α ++ β ∧ ∀ a ∈ β, H a = none
  cell : ∀ a ∈ α, ∀ u, H a = some u → ∃ u', H' a = some u'
theorem Ext.refl (α : List Addr) (H : Hp) : Ext α H α H := ⟨fun _ _ _ h => h, ⟨[], by simp, by simp⟩, fun _ _ u h => ⟨u, h⟩⟩
theorem Ext.tr {H : Hp} (e : Ext α H α' H') {a : Addr} {u : HO} (h : H a = some u) : ∃ u', H' a = some u' := by
  by_cases z : a ∈ α
  · exact e.cell a z u h
  · exact ⟨u, e.kp a u z h⟩
theorem Ext.out (e : Ext α H α' H') {a : Addr} (h : a ∉ α) (t : ∃ u, H a = some u) : a ∉ α' := by
  obtain ⟨β, rfl, hb⟩ := e.al
  obtain ⟨u, hu⟩ := t
  intro z
  rcases List.mem_append.mp z with z | z
  · exact h z
  · rw [hb a z] at hu; cases hu
theorem Ext.ix (e : Ext α H α' H') {n : Nat} {a : Addr} (h : α[n]? = some a) : α'[n]? = some a := by
  obtain ⟨β, rfl, hb⟩ := e.al
  rw [List.getElem?_append_left (List.getElem?_eq_some_iff.mp h).1]
  exact h
theorem Ext.sub (e : Ext α H α' H') {a : Addr} (h : a ∈ α) : a ∈ α' := by
  obtain ⟨β, rfl, hb⟩ := e.al
  exact List.mem_append_left _ h
theorem Ext.fresh (e : Ext α H α' H') {a : Addr} (h : H' a = none) : H a = none := by
  cases q : H a with
  | none => rfl
  | some u =>
    obtain ⟨u', h'⟩ := e.tr q
    rw [h] at h'; cases h'
theorem Ext.trans {α2 : List Addr} {H2 : Hp} (e : Ext α H α' H') (e' : Ext α' H' α2 H2) : Ext α H α2 H2 := by
  refine ⟨fun a u n h => e'.kp a u (e.out n ⟨u, h⟩) (e.kp a u n h), ?_, fun a ha u h => ?_⟩
  · obtain ⟨β, rfl, hb⟩ := e.al
    obtain ⟨γ, rfl, hc⟩ := e'.al
    refine ⟨β ++ γ, by simp, fun a ha => ?_⟩
    rcases List.mem_append.mp ha with z | z
    · exact hb a z
    · exact e.fresh (hc a z)
  · obtain ⟨u', h'⟩ := e.cell a ha u h
    exact e'.cell a (e.sub ha) u' h'
/-- a new object -/
theorem Ext.new {p : Addr} {o : HO} (h : H p = none) : Ext α H α (upd H p o) :=
  ⟨fun a u _ e => by rw [upd_ne (ne_of_none e h)]; exact e, ⟨[], by simp, by simp⟩, fun a _ u e => ⟨u, by rw [upd_ne (ne_of_none e h)]; exact e⟩⟩

theorem Rd.ext (e : Ext α H α' H') {a : Addr} {u : HO} (n : a ∉ α) (h : Rd H a u) : Rd H' a u :=
  h.elim (fun h => .inl (e.kp a _ n h)) fun ⟨o, h⟩ => .inr ⟨o, e.kp a _ n h⟩
theorem TupAt.ext (e : Ext α H α' H') {a : Addr} {xs : List V} (h : TupAt K α H a xs) : TupAt K α' H' a xs :=
  h.elim (fun ⟨h, n⟩ => .inl ⟨Rd.ext e n h, e.out n (Rd.tracked h)⟩) .inr
theorem ScrAt.sqL {a : Addr} {xs : List Int} (h : ScrAt K α G H a xs) : SqL K H a (xs.map V.int) := h.elim (fun h => .inl h.1) .inr
theorem ScrAt.ext (e : Ext α H α' H') (hG : ∀ a, G a → (∃ u, H a = some u) → G' a) {a : Addr} {xs : List Int} (h : ScrAt K α G H a xs) : ScrAt K α' G' H' a xs :=
  h.elim (fun ⟨h, n, g⟩ => .inl ⟨Rd.ext e n h, e.out n (Rd.tracked h), hG a g (Rd.tracked h)⟩) .inr
theorem InsAt.ext (e : Ext α H α' H') {c : Nat} {a dx : Addr} {us : List V} (na : a ∉ α) (nd : dx ∉ α) (h : InsAt CT H c a dx us) : InsAt CT H' c a dx us := by
  unfold InsAt at h ⊢
  split
  · rename_i q
    rw [if_pos q] at h
    obtain ⟨vs, h, hdx, k⟩ := h
    refine ⟨vs, ?_, hdx.imp (e.kp _ _ nd) (e.kp _ _ nd), k⟩
    rcases h with ⟨h1, h2⟩ | ⟨h1, h2⟩
    · exact .inl ⟨e.kp _ _ na h1, h2⟩
    · exact .inr ⟨e.kp _ _ na h1, e.kp _ _ nd h2⟩
  · rename_i q
    rw [if_neg q] at h
    exact ⟨e.kp _ _ na h.1, h.2⟩

mutual
/-- what stands for a tree still does -/
theorem Rep.ext (e : Ext α H α' H') (hG : ∀ a, G a → (∃ u, H a = some u) → G' a) : ∀ (d : D) {o : Own} {v : V} {os : List Addr}, Rep K CT α G H d o v os → Rep K CT α' G' H' d o v os
  | .non, _, _, _, h => by unfold Rep at h ⊢; exact h
  | .bl _, _, _, _, h => by unfold Rep at h ⊢; exact h
  | .int _, _, _, _, h => by unfold Rep at h ⊢; exact h
  | .str _, _, _, _, h => by unfold Rep at h ⊢; exact h
  | .hnd n, _, _, _, h => by
    unfold Rep at h ⊢
    obtain ⟨⟨a, h1, h2⟩, h3⟩ := h
    exact ⟨⟨a, e.ix h1, h2⟩, h3⟩
  | .scr xs, _, _, _, h => by
    unfold Rep at h ⊢
    obtain ⟨⟨a, h1, h2⟩, h3⟩ := h
    exact ⟨⟨a, h1, h2.ext e hG⟩, h3⟩
  | .tup xs, _, _, _, h => by
    unfold Rep at h ⊢
    obtain ⟨a, vs, h1, h2, h3⟩ := h
    exact ⟨a, vs, h1, h2.ext e, RepL.ext e hG xs h3⟩
  | .lst xs, o, _, _, h => by
    unfold Rep at h ⊢
    obtain ⟨a, vs, os', h1, h2, h3, h4⟩ := h
    split at h4
    · obtain ⟨g, r, q⟩ := h4
      refine ⟨a, vs, os', h1, e.out h2 ⟨_, r⟩, RepL.ext e hG xs h3, ?_⟩
      rename_i z
      rw [if_pos z]
      exact ⟨hG a g ⟨_, r⟩, e.kp _ _ h2 r, q⟩
    · obtain ⟨r, q⟩ := h4
      refine ⟨a, vs, os', h1, e.out h2 ⟨_, r⟩, RepL.ext e hG xs h3, ?_⟩
      rename_i z
      rw [if_neg z]
      exact ⟨e.kp _ _ h2 r, q⟩
  | .dic ks ds, o, _, _, h => by
    unfold Rep at h ⊢
    obtain ⟨a, kvs, os', h1, h2, hk, h3, h4⟩ := h
    split at h4
    · obtain ⟨g, r, q⟩ := h4
      refine ⟨a, kvs, os', h1, e.out h2 (Rd.tracked r), hk, RepL.ext e hG ds h3, ?_⟩
      rename_i z
      rw [if_pos z]
      exact ⟨hG a g (Rd.tracked r), Rd.ext e h2 r, q⟩
    · obtain ⟨r, q⟩ := h4
      refine ⟨a, kvs, os', h1, e.out h2 ⟨_, r⟩, hk, RepL.ext e hG ds h3, ?_⟩
      rename_i z
      rw [if_neg z]
      exact ⟨e.kp _ _ h2 r, q⟩
  | .ins c fs, o, _, _, h => by
    unfold Rep at h ⊢
    obtain ⟨a, dx, us, os', h1, h2, h3, hne, ⟨ua, ta⟩, ⟨ud, td⟩, h4, h5, h6⟩ := h
    refine ⟨a, dx, us, os', h1, e.out h2 ⟨_, ta⟩, e.out h3 ⟨_, td⟩, hne, ⟨_, e.kp _ _ h2 ta⟩, ⟨_, e.kp _ _ h3 td⟩, h4.ext e h2 h3, RepL.ext e hG fs h5, ?_⟩
    split at h6
    · rename_i z
      rw [if_pos z]
      exact ⟨hG a h6.1 ⟨_, ta⟩, hG dx h6.2.1 ⟨_, td⟩, h6.2.2⟩
    · rename_i z
      rw [if_neg z]
      exact h6
theorem RepL.ext (e : Ext α H α' H') (hG : ∀ a, G a → (∃ u, H a = some u) → G' a) : ∀ (ds : List D) {o : Own} {vs : List V} {os : List Addr}, RepL K CT α G H ds o vs os → RepL K CT α' G' H' ds o vs os
  | [], _, _, _, h => by unfold RepL at h ⊢; exact h
  | d :: ds, _, _, _, h => by
    unfold RepL at h ⊢
    obtain ⟨v, r, os1, os2, h1, h2, h3, h4⟩ := h
    exact ⟨v, r, os1, os2, h1, h2, Rep.ext e hG d h3, RepL.ext e hG ds h4⟩
end

mutual
/-- nothing of it is one's own any more -/
theorem Rep.weak : ∀ (d : D) {o : Own} {v : V} {os : List Addr}, Rep K CT α G H d o v os → (∀ a ∈ os, G a) → Rep K CT α G H d .no v []
  | .non, _, _, _, h, _ => by unfold Rep at h ⊢; exact ⟨h.1, rfl⟩
  | .bl _, _, _, _, h, _ => by unfold Rep at h ⊢; exact ⟨h.1, rfl⟩
  | .int _, _, _, _, h, _ => by unfold Rep at h ⊢; exact ⟨h.1, rfl⟩
  | .str _, _, _, _, h, _ => by unfold Rep at h ⊢; exact ⟨h.1, rfl⟩
  | .hnd n, _, _, _, h, _ => by unfold Rep at h ⊢; exact ⟨h.1, rfl⟩
  | .scr _, _, _, _, h, _ => by unfold Rep at h ⊢; exact ⟨h.1, rfl, rfl⟩
  | .tup xs, _, _, _, h, g => by
    unfold Rep at h ⊢
    obtain ⟨a, vs, h1, h2, h3⟩ := h
    exact ⟨a, vs, h1, h2, RepL.weak xs h3 g⟩
  | .lst xs, o, _, _, h, g => by
    unfold Rep at h ⊢
    obtain ⟨a, vs, os', h1, h2, h3, h4⟩ := h
    split at h4
    · obtain ⟨g', r, q⟩ := h4
      subst q
      exact ⟨a, vs, [], h1, h2, RepL.weak xs h3 g, by rw [if_pos rfl]; exact ⟨g', r, rfl⟩⟩
    · obtain ⟨r, q⟩ := h4
      subst q
      exact ⟨a, vs, [], h1, h2, RepL.weak xs h3 (fun b hb => g b (List.mem_cons_of_mem _ hb)), by rw [if_pos rfl]; exact ⟨g a List.mem_cons_self, r, rfl⟩⟩
  | .dic ks ds, o, _, _, h, g => by
    unfold Rep at h ⊢
    obtain ⟨a, kvs, os', h1, h2, hk, h3, h4⟩ := h
    split at h4
    · obtain ⟨g', r, q⟩ := h4
      subst q
      exact ⟨a, kvs, [], h1, h2, hk, RepL.weak ds h3 g, by rw [if_pos rfl]; exact ⟨g', r, rfl⟩⟩
    · obtain ⟨r, q⟩ := h4
      subst q
      exact ⟨a, kvs, [], h1, h2, hk, RepL.weak ds h3 (fun b hb => g b (List.mem_cons_of_mem _ hb)), by rw [if_pos rfl]; exact ⟨g a List.mem_cons_self, .inl r, rfl⟩⟩
  | .ins c fs, o, _, _, h, g => by
    unfold Rep at h ⊢
    obtain ⟨a, dx, us, os', h1, h2, h3, hne, ta, td, h4, h5, h6⟩ := h
    split at h6
    · obtain ⟨g1, g2, q⟩ := h6
      subst q
      exact ⟨a, dx, us, [], h1, h2, h3, hne, ta, td, h4, RepL.weak fs h5 g, by rw [if_pos rfl]; exact ⟨g1, g2, rfl⟩⟩
    · subst h6
      exact ⟨a, dx, us, [], h1, h2, h3, hne, ta, td, h4, RepL.weak fs h5 (fun b hb => g b (List.mem_cons_of_mem _ (List.mem_cons_of_mem _ hb))), by
        rw [if_pos rfl]; exact ⟨g a List.mem_cons_self, g dx (List.mem_cons_of_mem _ List.mem_cons_self), rfl⟩⟩
theorem RepL.weak : ∀ (ds : List D) {o : Own} {vs : List V} {os : List Addr}, RepL K CT α G H ds o vs os → (∀ a ∈ os, G a) → RepL K CT α G H ds .no vs []
  | [], _, _, _, h, _ => by unfold RepL at h ⊢; exact ⟨h.1, rfl⟩
  | d :: ds, _, _, _, h, g => by
    unfold RepL at h ⊢
    obtain ⟨v, r, os1, os2, h1, h2, h3, h4⟩ := h
    subst h2
    exact ⟨v, r, [], [], h1, rfl, Rep.weak d h3 fun a ha => g a (List.mem_append_left _ ha), RepL.weak ds h4 fun a ha => g a (List.mem_append_right _ ha)⟩
end

mutual
/-- a flat tree is told by its value alone -/
theorem Rep.flat : ∀ (d : D) {o o' : Own} {v : V} {os : List Addr}, flat d = true → Rep K CT α G H d o v os → os = [] ∧ Rep K CT α G' H d o' v []
  | .non, _, _, _, _, _, h => by unfold Rep at h ⊢; exact ⟨h.2, h.1, rfl⟩
  | .bl _, _, _, _, _, _, h => by unfold Rep at h ⊢; exact ⟨h.2, h.1, rfl⟩
  | .int _, _, _, _, _, _, h => by unfold Rep at h ⊢; exact ⟨h.2, h.1, rfl⟩
  | .str _, _, _, _, _, _, h => by unfold Rep at h ⊢; exact ⟨h.2, h.1, rfl⟩
  | .hnd n, _, _, _, _, _, h => by unfold Rep at h ⊢; exact ⟨h.2, h.1, rfl⟩
  | .scr _, _, _, _, _, f, _ => by simp [PD.flat] at f
  | .tup xs, _, _, _, _, f, h => by
    unfold Rep at h ⊢
    obtain ⟨a, vs, h1, h2, h3⟩ := h
    unfold PD.flat at f
    obtain ⟨z, q⟩ := RepL.flat xs f h3
    exact ⟨z, a, vs, h1, h2, q⟩
  | .lst _, _, _, _, _, f, _ => by simp [PD.flat] at f
  | .dic _ _, _, _, _, _, f, _ => by simp [PD.flat] at f
  | .ins _ _, _, _, _, _, f, _ => by simp [PD.flat] at f
theorem RepL.flat : ∀ (ds : List D) {o o' : Own} {vs : List V} {os : List Addr}, flatL ds = true → RepL K CT α G H ds o vs os → os = [] ∧ RepL K CT α G' H ds o' vs []
  | [], _, _, _, _, _, h => by unfold RepL at h ⊢; exact ⟨h.2, h.1, rfl⟩
  | d :: ds, _, _, _, _, f, h => by
    unfold RepL at h ⊢
    obtain ⟨v, r, os1, os2, h1, h2, h3, h4⟩ := h
    simp only [flatL, Bool.and_eq_true] at f
    obtain ⟨z1, q1⟩ := Rep.flat d f.1 h3
    obtain ⟨z2, q2⟩ := RepL.flat ds f.2 h4
    subst z1 z2
    exact ⟨h2, v, r, [], [], h1, rfl, q1, q2⟩
end

mutual
/-- what is one's own is tracked, and no cell -/
theorem Rep.own : ∀ (d : D) {o : Own} {v : V} {os : List Addr}, Rep K CT α G H d o v os → ∀ a ∈ os, (∃ u, H a = some u) ∧ a ∉ α
  | .non, _, _, _, h, a, ha => by unfold Rep at h; rw [h.2] at ha; cases ha
  | .bl _, _, _, _, h, a, ha => by unfold Rep at h; rw [h.2] at ha; cases ha
  | .int _, _, _, _, h, a, ha => by unfold Rep at h; rw [h.2] at ha; cases ha
  | .str _, _, _, _, h, a, ha => by unfold Rep at h; rw [h.2] at ha; cases ha
  | .hnd n, _, _, _, h, a, ha => by unfold Rep at h; rw [h.2] at ha; cases ha
  | .scr _, _, _, _, h, a, ha => by unfold Rep at h; rw [h.2.1] at ha; cases ha
  | .tup xs, _, _, _, h, a, ha => by
    unfold Rep at h
    obtain ⟨_, vs, h1, h2, h3⟩ := h
    exact RepL.own xs h3 a ha
  | .lst xs, o, _, _, h, a, ha => by
    unfold Rep at h
    obtain ⟨b, vs, os', h1, h2, h3, h4⟩ := h
    split at h4
    · obtain ⟨g, r, q⟩ := h4
      subst q
      exact RepL.own xs h3 a ha
    · obtain ⟨r, q⟩ := h4
      subst q
      rcases List.mem_cons.mp ha with z | z
      · subst z
        exact ⟨⟨_, r⟩, h2⟩
      · exact RepL.own xs h3 a z
  | .dic ks ds, o, _, _, h, a, ha => by
    unfold Rep at h
    obtain ⟨b, vs, os', h1, h2, hk, h3, h4⟩ := h
    split at h4
    · obtain ⟨g, r, q⟩ := h4
      subst q
      exact RepL.own ds h3 a ha
    · obtain ⟨r, q⟩ := h4
      subst q
      rcases List.mem_cons.mp ha with z | z
      · subst z
        exact ⟨⟨_, r⟩, h2⟩
      · exact RepL.own ds h3 a z
  | .ins c fs, o, _, _, h, a, ha => by
    unfold Rep at h
    obtain ⟨b, dx, us, os', h1, h2, h3, hne, ta, td, h4, h5, h6⟩ := h
    split at h6
    · obtain ⟨g1, g2, q⟩ := h6
      subst q
      exact RepL.own fs h5 a ha
    · subst h6
      rcases List.mem_cons.mp ha with z | z
      · subst z
        exact ⟨ta, h2⟩
      · rcases List.mem_cons.mp z with z | z
        · subst z
          exact ⟨td, h3⟩
        · exact RepL.own fs h5 a z
theorem RepL.own : ∀ (ds : List D) {o : Own} {vs : List V} {os : List Addr}, RepL K CT α G H ds o vs os → ∀ a ∈ os, (∃ u, H a = some u) ∧ a ∉ α
  | [], _, _, _, h, a, ha => by unfold RepL at h; rw [h.2] at ha; cases ha
  | d :: ds, _, _, _, h, a, ha => by
    unfold RepL at h
    obtain ⟨v, r, os1, os2, h1, h2, h3, h4⟩ := h
    subst h2
    rcases List.mem_append.mp ha with z | z
    · exact Rep.own d h3 a z
    · exact RepL.own ds h4 a z
end
end
end PD
/-! DCore: what it is that an expression of the model does what one of PD does -/
namespace PD
open PySem L2

theorem szl : (sizeLine : Nat) = 16777216 := sizeLine_eq

/-- the store -/
structure WS (α : List Addr) (st : Store) (H : Hp) : Prop where
  len : α.length = st.length
  nd : α.Nodup
  at_ : ∀ (n : Nat) (a : Addr), α[n]? = some a → ∃ xs : List Int, st[n]? = some (Cell.nums xs) ∧ H a = some (.lst (xs.map V.int))
theorem WS.trk {α : List Addr} {st : Store} {H : Hp} (w : WS α st H) : ∀ a ∈ α, ∃ u, H a = some u := fun a ha => by
  obtain ⟨n, hn⟩ := List.getElem?_of_mem ha
  obtain ⟨xs, _, h⟩ := w.at_ n a hn
  exact ⟨_, h⟩
/-- what is new may be shared -/
def GF (G : Addr → Prop) (H : Hp) : Prop := ∀ a, H a = none → G a
abbrev Gm (G : Addr → Prop) (os : List Addr) : Addr → Prop := fun a => G a ∧ a ∉ os

/-- a made exception: its class, its fields -/
def ExcRep (K : PySem.W.Frag) (CT : CTab) (α : List Addr) (G : Addr → Prop) (H : Hp) (c : Nat) (ds : List D) (cls : Value) (dd : Option Addr) : Prop :=
  cls = .ref (CT c).C ∧ (ds ≠ [] → ∃ p vs, dd = some p ∧ RepL K CT α G H ds .no vs [] ∧ H p = some (.xd ((CT c).names.zip vs)))

/-- behind an evaluation -/
structure Post (K : PySem.W.Frag) (CT : CTab) (α : List Addr) (H : Hp) (G : Addr → Prop) (st' : Store) (o : Own) (d : D) (v : V) (H' : Hp) (α' : List Addr) (os : List Addr) : Prop where
  ext : Ext α H α' H'
  ws : WS α' st' H'
  rep : Rep K CT α' (Gm G os) H' d o v os
  fr : ∀ a ∈ os, H a = none
  nd : os.Nodup
structure PostL (K : PySem.W.Frag) (CT : CTab) (α : List Addr) (H : Hp) (G : Addr → Prop) (st' : Store) (b : Bool) (ds : List D) (vs : List V) (H' : Hp) (α' : List Addr) (os : List Addr) : Prop where
  ext : Ext α H α' H'
  ws : WS α' st' H'
  rep : RepL K CT α' (Gm G os) H' ds (if b then .all else .no) vs os
  fr : ∀ a ∈ os, H a = none
  nd : os.Nodup

section
variable (K : PySem.W.Frag) (CT : CTab) (W : WX) (σ : L2.St) (α : List Addr) (H : Hp) (G : Addr → Prop)
def ExcW (c : Nat) (ds : List D) (st' : Store) : Prop := ∀ H' α' cls dd, Ext α H α' H' → WS α' st' H' → ExcRep K CT α' G H' c ds cls dd → W cls dd σ H'
def SatE (Q : VK) : R VD → Prop
  | .ok v st' => ∀ x H' α' os, Post K CT α H G st' v.1 v.2 x H' α' os → Q x H'
  | .exc c ds st' => ExcW K CT W σ α H G c ds st'
  | .no => False
def SatL (Q : List V → Hp → Prop) : R (Bool × List D) → Prop
  | .ok v st' => ∀ x H' α' os, PostL K CT α H G st' v.1 v.2 x H' α' os → Q x H'
  | .exc c ds st' => ExcW K CT W σ α H G c ds st'
  | .no => False
/-- a truth -/
def SatT (Q : Bool → Hp → Prop) : R VD → Prop
  | .ok v st' => ∃ b, truthD v.2 = some b ∧ ∀ H' α', Ext α H α' H' → WS α' st' H' → Q b H'
  | .exc c ds st' => ExcW K CT W σ α H G c ds st'
  | .no => False
end

section
variable {K : PySem.W.Frag} {CT : CTab} {W : WX} {σ : L2.St} {α α1 : List Addr} {H H1 : Hp} {G G1 : Addr → Prop}
theorem WS.cellIn {st : Store} (w : WS α st H) {a : Addr} (h : a ∈ α) : ∃ u, H a = some u := by
  obtain ⟨n, hn⟩ := List.getElem?_of_mem h
  obtain ⟨xs, _, q⟩ := w.at_ n a hn
  exact ⟨_, q⟩
theorem ExcRep.mono {c : Nat} {ds : List D} {cls : Value} {dd : Option Addr} (h : ExcRep K CT α G1 H c ds cls dd) (hG : ∀ a, G1 a → G a) : ExcRep K CT α G H c ds cls dd :=
  ⟨h.1, fun n => let ⟨p, vs, h1, h2, h3⟩ := h.2 n; ⟨p, vs, h1, RepL.ext (Ext.refl _ _) (fun a g _ => hG a g) ds h2, h3⟩⟩
theorem ExcW.from {c : Nat} {ds : List D} {st' : Store} (e : Ext α H α1 H1) (hG : ∀ a, G1 a → G a) (h : ExcW K CT W σ α H G c ds st') : ExcW K CT W σ α1 H1 G1 c ds st' :=
  fun H' α' cls dd e' w x => h H' α' cls dd (e.trans e') w (x.mono hG)
theorem Post.from {st' : Store} {o : Own} {d : D} {v : V} {H' : Hp} {α' os : List Addr} (e : Ext α H α1 H1) (hG : ∀ a, G1 a → G a) (p : Post K CT α1 H1 G1 st' o d v H' α' os) : Post K CT α H G st' o d v H' α' os :=
  ⟨e.trans p.ext, p.ws, Rep.ext (Ext.refl _ _) (fun a g _ => ⟨hG a g.1, g.2⟩) d p.rep, fun a ha => e.fresh (p.fr a ha), p.nd⟩
theorem PostL.from {st' : Store} {b : Bool} {ds : List D} {vs : List V} {H' : Hp} {α' os : List Addr} (e : Ext α H α1 H1) (hG : ∀ a, G1 a → G a) (p : PostL K CT α1 H1 G1 st' b ds vs H' α' os) : PostL K CT α H G st' b ds vs H' α' os :=
  ⟨e.trans p.ext, p.ws, RepL.ext (Ext.refl _ _) (fun a g _ => ⟨hG a g.1, g.2⟩) ds p.rep, fun a ha => e.fresh (p.fr a ha), p.nd⟩
theorem SatE.from {Q : VK} (e : Ext α H α1 H1) (hG : ∀ a, G1 a → G a) {x : R VD} (h : SatE K CT W σ α H G Q x) : SatE K CT W σ α1 H1 G1 Q x := by
  cases x with
  | ok v st' => exact fun x H' α' os p => h x H' α' os (p.from e hG)
  | exc c ds st' => exact ExcW.from e hG h
  | no => exact h
theorem SatL.from {Q : List V → Hp → Prop} (e : Ext α H α1 H1) (hG : ∀ a, G1 a → G a) {x : R (Bool × List D)} (h : SatL K CT W σ α H G Q x) : SatL K CT W σ α1 H1 G1 Q x := by
  cases x with
  | ok v st' => exact fun x H' α' os p => h x H' α' os (p.from e hG)
  | exc c ds st' => exact ExcW.from e hG h
  | no => exact h
theorem GF.ext (g : GF G H) (e : Ext α H α1 H1) : GF G H1 := fun a h => g a (e.fresh h)
theorem GF.minus {os : List Addr} (g : GF G H) (h : ∀ a ∈ os, ∃ u, H a = some u) : GF (Gm G os) H := fun a ha => ⟨g a ha, fun z => by
  obtain ⟨u, hu⟩ := h a z
  rw [ha] at hu; cases hu⟩
/-- the values of the names -/
def EnvV (K : PySem.W.Frag) (CT : CTab) (α : List Addr) (G : Addr → Prop) (H : Hp) (r : Rho) (σ : L2.St) : Prop :=
  ∀ (i : Nat) (d : D), r[i]? = some (some d) → ∃ v, σ[i]? = some (some v) ∧ Rep K CT α G H d .no v []
theorem EnvV.ext {r : Rho} (h : EnvV K CT α G H r σ) (e : Ext α H α1 H1) (hG : ∀ a, G a → (∃ u, H a = some u) → G1 a) : EnvV K CT α1 G1 H1 r σ := fun i d hi =>
  let ⟨v, h1, h2⟩ := h i d hi
  ⟨v, h1, Rep.ext e hG d h2⟩
/-- what an evaluation gave is no one's any more -/
theorem Post.shared {st' : Store} {o : Own} {d : D} {v : V} {H' : Hp} {α' os : List Addr} (g : GF G H) (p : Post K CT α H G st' o d v H' α' os) : Rep K CT α' G H' d .no v [] :=
  Rep.weak d (Rep.ext (G' := G) (Ext.refl _ _) (fun a g _ => g.1) d p.rep) fun a ha => g a (p.fr a ha)
theorem PostL.shared {st' : Store} {b : Bool} {ds : List D} {vs : List V} {H' : Hp} {α' os : List Addr} (g : GF G H) (p : PostL K CT α H G st' b ds vs H' α' os) : RepL K CT α' G H' ds .no vs [] :=
  RepL.weak ds (RepL.ext (G' := G) (Ext.refl _ _) (fun a g _ => g.1) ds p.rep) fun a ha => g a (p.fr a ha)
end

/-! ### the semantic readings -/
def wE (X : Cx) (e : Expr) : TE := fun σ H Q => ∀ pins s, Inv X pins σ H s → wpAny (model X.prog X.w) X.A (eval e X.env) (EP X pins σ Q) X.xe s
def wT (X : Cx) (e : Expr) : TT := fun σ H Q => ∀ pins s, Inv X pins σ H s → wpAny (model X.prog X.w) X.A (isTrue e X.env (eval e X.env)) (TP X pins σ Q) X.xe s
def wL (X : Cx) (es : List Expr) : TA := fun σ H Q => ∀ pos pins s, Inv X pins σ H s → wpAny (model X.prog X.w) X.A (spliced (backTo pos (starEach es X.env))) (AP X pins σ Q) X.xe s
theorem pe_w {X : Cx} {e : Expr} : PE X e (wE X e) := ⟨fun pins s _ _ _ I h => h pins s I⟩
theorem pt_w {X : Cx} {e : Expr} : PT X e (wT X e) := ⟨fun pins s _ _ _ I h => h pins s I⟩
theorem pa_w {X : Cx} {es : List Expr} : PA X es (wL X es) := ⟨fun pos pins s _ _ _ I h => h pos pins s I⟩
theorem wE.of {X : Cx} {e : Expr} {t : TE} {σ : L2.St} {H : Hp} {Q : VK} (h : PE X e t) (q : t σ H Q) : wE X e σ H Q := fun pins s I => h.run pins s σ H Q I q
theorem wT.of {X : Cx} {e : Expr} {t : TT} {σ : L2.St} {H : Hp} {Q : Bool → Hp → Prop} (h : PT X e t) (q : t σ H Q) : wT X e σ H Q := fun pins s I => h.run pins s σ H Q I q
theorem wL.of {X : Cx} {es : List Expr} {t : TA} {σ : L2.St} {H : Hp} {Q : List V → Hp → Prop} (h : PA X es t) (q : t σ H Q) : wL X es σ H Q := fun pos pins s I => h.run pos pins s σ H Q I q
theorem wE.mono {X : Cx} {e : Expr} {σ : L2.St} {H : Hp} {Q Q' : VK} (h : wE X e σ H Q) (k : ∀ v H', Q v H' → Q' v H') : wE X e σ H Q' := fun pins s I =>
  thn (h pins s I) fun u s' ⟨v, H', I', r, q⟩ => ⟨v, H', I', r, k v H' q⟩
/-- operations on values -/
def wOp (X : Cx) (f : Value → Value → Sem Value) : R2 := fun x y H Q => ∀ pins s σ v u, Inv X pins σ H s → RelV x v → RelV y u → wpAny (model X.prog X.w) X.A (f v u) (EP X pins σ Q) X.xe s
theorem op_w {X : Cx} {f : Value → Value → Sem Value} : OpR X f (wOp X f) := fun pins s σ _ _ _ v u _ I rx ry h => h pins s σ v u I rx ry
theorem wOp.of {X : Cx} {f : Value → Value → Sem Value} {r : R2} (h : OpR X f r) {x y : V} {H : Hp} {Q : VK} (q : r x y H Q) : wOp X f x y H Q := fun pins s σ v u I rx ry => h pins s σ H x y v u Q I rx ry q
def wUn (X : Cx) (f : Value → Sem Value) : V → Hp → VK → Prop := fun x H Q => ∀ pins s σ v, Inv X pins σ H s → RelV x v → wpAny (model X.prog X.w) X.A (f v) (EP X pins σ Q) X.xe s
theorem un_w {X : Cx} {f : Value → Sem Value} : UnR X f (wUn X f) := fun pins s σ _ _ v _ I rx h => h pins s σ v I rx
def wCall (X : Cx) (f : Value) : List V → Hp → VK → Prop := fun xs H Q => ∀ pins s σ us, Inv X pins σ H s → Vals xs us → wpAny (model X.prog X.w) X.A (call f us) (EP X pins σ Q) X.xe s
theorem call_w {X : Cx} {f : Value} : CallR X f (wCall X f) := fun pins s σ _ _ us _ I r h => h pins s σ us I r
theorem wCall.of {X : Cx} {f : Value} {r : List V → Hp → VK → Prop} (h : CallR X f r) {xs : List V} {H : Hp} {Q : VK} (q : r xs H Q) : wCall X f xs H Q := fun pins s σ us I rx => h pins s σ H xs us Q I rx q

/-! ### what stands behind an operation on values -/
/-- f on values of dx and dy gives what res tells -/
def OpD (X : Cx) (CT : CTab) (f : Value → Value → Sem Value) (dx dy : D) (res : Option VD) : Prop :=
  ∀ o d, res = some (o, d) → ∀ vx vy α G st H, Rep X.K CT α G H dx .no vx [] → Rep X.K CT α G H dy .no vy [] → WS α st H → GF G H →
    ∀ Q : VK, (∀ v H' os, Post X.K CT α H G st o d v H' α os → Q v H') → wOp X f vx vy H Q

section
variable {K : PySem.W.Frag} {CT : CTab} {α : List Addr} {G : Addr → Prop} {H : Hp} {st : Store}
theorem WS.new {p : Addr} {o : HO} (w : WS α st H) (h : H p = none) : WS α st (upd H p o) :=
  ⟨w.len, w.nd, fun n a hn => let ⟨xs, h1, h2⟩ := w.at_ n a hn; ⟨xs, h1, by rw [upd_ne (ne_of_none h2 h)]; exact h2⟩⟩
theorem WS.out (w : WS α st H) {p : Addr} (h : H p = none) : p ∉ α := fun z => by
  obtain ⟨u, hu⟩ := w.cellIn z
  rw [h] at hu; cases hu
/-- a value that is no object -/
theorem Post.val {o : Own} {d : D} {v : V} (w : WS α st H) (h : Rep K CT α (Gm G []) H d o v []) : Post K CT α H G st o d v H α [] :=
  ⟨Ext.refl _ _, w, h, fun _ z => (by cases z), List.nodup_nil⟩
theorem Post.int {i : Int} (w : WS α st H) : Post K CT α H G st .all (.int i) (.int i) H α [] := .val w (by unfold Rep; exact ⟨rfl, rfl⟩)
theorem Post.bl {b : Bool} (w : WS α st H) : Post K CT α H G st .all (.bl b) (.bl b) H α [] := .val w (by unfold Rep; exact ⟨rfl, rfl⟩)
theorem Post.str {s : List Nat} (w : WS α st H) : Post K CT α H G st .all (.str s) (.str (toStr s)) H α [] := .val w (by unfold Rep; exact ⟨rfl, rfl⟩)
theorem Post.non (w : WS α st H) : Post K CT α H G st .all .non .non H α [] := .val w (by unfold Rep; exact ⟨rfl, rfl⟩)
theorem RepL.len : ∀ {ds : List D} {o : Own} {vs : List V} {os : List Addr}, RepL K CT α G H ds o vs os → vs.length = ds.length
  | [], _, _, _, h => by unfold RepL at h; rw [h.1]; rfl
  | d :: ds, _, _, _, h => by
    unfold RepL at h
    obtain ⟨v, r, os1, os2, h1, h2, h3, h4⟩ := h
    rw [h1, List.length_cons, List.length_cons, RepL.len h4]
/-- flat values stand for themselves under any wish -/
theorem RepL.anyFlat {G' : Addr → Prop} {ds : List D} {o o' : Own} {vs : List V} {os : List Addr} (f : flatL ds = true) (h : RepL K CT α G H ds o vs os) : RepL K CT α G' H ds o' vs [] := (RepL.flat ds f h).2
/-- a new list of values that stand already -/
theorem Post.newL {ds : List D} {vs : List V} {p : Addr} (w : WS α st H) (g : GF G H) (hp : H p = none) (h : RepL K CT α G H ds .no vs []) :
    Post K CT α H G st (newO ds) (.lst ds) (.ref p) (upd H p (.lst vs)) α [p] := by
  have e : Ext α H α (upd H p (.lst vs)) := Ext.new hp
  refine ⟨e, w.new hp, ?_, fun a ha => by rw [List.mem_singleton.mp ha]; exact hp, by simp⟩
  have h2 : RepL K CT α (Gm G [p]) (upd H p (.lst vs)) ds .no vs [] := RepL.ext e (fun a ga ⟨u, hu⟩ => ⟨ga, fun z => by
    rw [List.mem_singleton.mp z, hp] at hu; cases hu⟩) ds h
  unfold Rep
  unfold newO
  by_cases f : flatL ds = true
  · rw [if_pos f]
    exact ⟨p, vs, [], rfl, w.out hp, h2.anyFlat f, by rw [if_neg (by decide)]; exact ⟨upd_same, rfl⟩⟩
  · rw [if_neg f]
    exact ⟨p, vs, [], rfl, w.out hp, h2, by rw [if_neg (by decide)]; exact ⟨upd_same, rfl⟩⟩
theorem Post.newT {ds : List D} {vs : List V} {p : Addr} (w : WS α st H) (g : GF G H) (hp : H p = none) (h : RepL K CT α G H ds .no vs []) :
    Post K CT α H G st (flatO (.tup ds)) (.tup ds) (.ref p) (upd H p (.tup vs)) α [] := by
  have e : Ext α H α (upd H p (.tup vs)) := Ext.new hp
  refine ⟨e, w.new hp, ?_, fun a ha => (by cases ha), by simp⟩
  have h2 : RepL K CT α (Gm G []) (upd H p (.tup vs)) ds .no vs [] := RepL.ext e (fun a ga _ => ⟨ga, by simp⟩) ds h
  unfold Rep
  refine ⟨p, vs, rfl, .inl ⟨.inl upd_same, w.out hp⟩, ?_⟩
  unfold flatO
  by_cases f : PD.flat (.tup ds) = true
  · rw [if_pos f]
    unfold PD.flat at f
    exact h2.anyFlat f
  · rw [if_neg f]
    exact h2
theorem RepL.append {o : Own} : ∀ {ds es : List D} {vs ws : List V} {os os' : List Addr}, RepL K CT α G H ds o vs os → RepL K CT α G H es o ws os' → RepL K CT α G H (ds ++ es) o (vs ++ ws) (os ++ os')
  | [], _, _, _, _, _, h, h' => by
    unfold RepL at h
    rw [h.1, h.2]
    exact h'
  | d :: ds, _, _, _, _, _, h, h' => by
    unfold RepL at h
    obtain ⟨v, r, os1, os2, h1, h2, h3, h4⟩ := h
    subst h1 h2
    show RepL K CT α G H (d :: (ds ++ _)) o _ _
    unfold RepL
    exact ⟨v, _, os1, _, rfl, by rw [List.append_assoc], h3, RepL.append h4 h'⟩
theorem RepL.flatten {o : Own} : ∀ (n : Nat) {ds : List D} {vs : List V}, RepL K CT α G H ds o vs [] → RepL K CT α G H (rep n ds) o (List.replicate n vs).flatten []
  | 0, _, _, _ => by
    show RepL K CT α G H [] o [] []
    unfold RepL
    exact ⟨rfl, rfl⟩
  | n + 1, ds, vs, h => by
    have ih := RepL.flatten n h
    show RepL K CT α G H (List.replicate (n + 1) ds).flatten o (List.replicate (n + 1) vs).flatten []
    rw [List.replicate_succ, List.replicate_succ, List.flatten_cons, List.flatten_cons]
    exact h.append ih
end

/-! ### sizes of texts -/
theorem toStr_len (s : List Nat) : (toStr s).length = s.length := by
  show s.toArray.size = s.length
  simp
theorem toStr_app (s t : List Nat) : toStr s ++ toStr t = toStr (s ++ t) := by
  show (⟨s.toArray ++ t.toArray⟩ : Str) = ⟨(s ++ t).toArray⟩
  simp
theorem toStr_inj {s t : List Nat} : toStr s = toStr t ↔ s = t := by
  constructor
  · intro h
    have h1 : s.toArray = t.toArray := congrArg Str.cps h
    simpa using congrArg Array.toList h1
  · intro h
    rw [h]
theorem maxLen_le {n : Nat} (h : n ≤ maxLen) : n ≤ sizeLine := by
  rw [szl]
  unfold maxLen at h
  omega
theorem maxLen_lt {n : Nat} (h : n < maxLen) : n < sizeLine := by
  rw [szl]
  unfold maxLen at h
  omega
end PD
/-! DOps: operators -/
namespace PD
open PySem L2

def pyBop : Bop → Operator
  | .add => .Add
  | .sub => .Sub
  | .mul => .Mult
  | .pow => .Pow
  | .mod => .Mod
  | .fdiv => .FloorDiv

section
variable {X : Cx}
theorem fold_rep_arr {α : Type} (xs : Array α) : ∀ (n : Nat) (acc : List α), List.foldl (fun a b => a ++ b) acc.toArray (List.replicate n xs) = (acc ++ (List.replicate n xs.toList).flatten).toArray
  | 0, acc => by simp
  | n + 1, acc => by
    have ih := fold_rep_arr xs n (acc ++ xs.toList)
    rw [List.replicate_succ, List.foldl_cons, show acc.toArray ++ xs = (acc ++ xs.toList).toArray by (cases xs; simp), ih]
    simp [List.replicate_succ]
/-- text * int -/
theorem op_repS : OpR X (binaryOp .Mult) (fun x y H Q => ∃ (z : List Nat) (k : Int), x = V.str (toStr z) ∧ y = V.int k ∧ -1000000 < k ∧ k < 1000000 ∧ z.length * k.toNat ≤ maxLen ∧ Q (V.str (toStr (rep k.toNat z))) H) := by
  rintro pins s σ H _ _ _ _ Q I rx ry ⟨z, k, rfl, rfl, h1, h2, hz, q⟩
  obtain ⟨t, rfl⟩ := rx
  obtain ⟨u, rfl⟩ := ry
  have lz := toStr_len z
  have hml := maxLen_le hz
  refine P.mul_str ?_ (fun hk hn => ?_) (fun hk hn => ?_) ?_
  · rw [decide_eq_false (by omega), decide_eq_false (by omega)]
    rfl
  · intro hgt
    have z1 : z.length * k.toNat ≤ 1000000 := hz
    have z2 : (1 : Int) ≤ k := by omega
    have z3 : z.length ≤ 1000000 := by
      have : z.length * 1 ≤ z.length * k.toNat := Nat.mul_le_mul_left _ (by omega)
      omega
    rw [lz] at hgt
    have z4 : ((2 ^ 63 - 1 : Int)) / k ≥ 1000000 := by
      have : (1000000 : Int) * k ≤ 2 ^ 63 - 1 := by omega
      exact Int.le_ediv_of_mul_le (by omega) this
    omega
  · unfold Builtin.Str.tooLong
    rw [lz]
    exact decide_eq_false (by omega)
  · have e0 : (List.replicate k.toNat (toStr z).cps).foldl (· ++ ·) #[] = (rep k.toNat z).toArray := by
      have := fold_rep_arr (toStr z).cps k.toNat []
      unfold rep
      rw [show ((toStr z).cps).toList = z by simp [toStr]] at this
      simpa using this
    have fin : ∀ t', EP X pins σ Q (.str (toStr (rep k.toNat z)) t') s ∧ EP X pins σ Q (.str (toStr (rep k.toNat z)) t') { s with toks := s.toks + 1 } := fun t' =>
      ⟨⟨.str (toStr (rep k.toNat z)), H, I, ⟨t', rfl⟩, q⟩, ⟨.str (toStr (rep k.toNat z)), H, I.tok _, ⟨t', rfl⟩, q⟩⟩
    by_cases hk : k < 1
    · rw [if_pos hk]
      have e1 : toStr (rep k.toNat z) = Str.empty := by
        rw [show k.toNat = 0 by omega]
        rfl
      have := (fin s.toks).2
      rw [e1] at this
      exact ⟨by decide, this⟩
    · rw [if_neg hk]
      by_cases hn : (k == 1 || (toStr z).length == 0) = true
      · rw [if_pos hn]
        have e1 : rep k.toNat z = z := by
          rcases Bool.or_eq_true_iff.mp hn with c | c
          · have : k = 1 := by simpa using c
            subst this
            simp [rep]
          · have : z = [] := by
              rw [lz] at c
              simpa using c
            subst this
            simp [rep]
        have := (fin t).1
        rw [e1] at this
        exact this
      · rw [if_neg hn, e0]
        have hlen : (rep k.toNat z).length = z.length * k.toNat := by simp [rep, Nat.mul_comm]
        refine ⟨?_, (fin s.toks).2⟩
        show (toStr (rep k.toNat z)).length ≤ sizeLine
        rw [toStr_len, hlen]
        exact hml
variable {CT : CTab}
theorem log_lt {i : Int} {n : Nat} (h : nlog i < n) : i.natAbs.log2 < n := h
theorem binOp_ok (op : Bop) (dx dy : D) : OpD X CT (binaryOp (pyBop op)) dx dy (binD op dx dy) := by
  intro o d h vx vy α G st H hx hy w g Q k
  unfold binD at h
  split at h
  · cases h
    unfold Rep at hx hy
    rw [hx.1, hy.1]
    exact wOp.of op_add ⟨_, _, rfl, rfl, k _ _ _ (.int w)⟩
  · split at h
    · cases h
      rename_i s t hz
      unfold Rep at hx hy
      rw [hx.1, hy.1]
      refine wOp.of op_add_str ⟨_, _, rfl, rfl, by rw [toStr_len, toStr_len]; exact maxLen_le hz, ?_⟩
      rw [toStr_app]
      exact k _ _ _ (.str w)
    · cases h
  · split at h
    · cases h
      rename_i xs ys hz
      unfold Rep at hx hy
      obtain ⟨a, vs, os', rfl, na, rx, ha⟩ := hx
      obtain ⟨b, ws, os2, rfl, nb, ry, hb⟩ := hy
      rw [if_pos rfl] at ha hb
      obtain ⟨_, ha, e1⟩ := ha
      obtain ⟨_, hb, e2⟩ := hb
      subst e1 e2
      refine wOp.of op_cat ⟨a, b, vs, ws, rfl, rfl, ha, hb, by rw [rx.len, ry.len]; exact maxLen_le hz, fun p hp => k _ _ _ (.newL w g hp (rx.append ry))⟩
    · cases h
  · split at h
    · cases h
      rename_i xs ys hz
      obtain ⟨hz, e1, e2⟩ := hz
      unfold Rep at hx hy
      obtain ⟨a, vs, rfl, ta, rx⟩ := hx
      obtain ⟨b, ws, rfl, tb, ry⟩ := hy
      have l1 := rx.len
      have l2 := ry.len
      have n1 : vs ≠ [] := fun z => by
        rw [z] at l1
        cases xs with
        | nil => simp at e1
        | cons _ _ => simp at l1
      have n2 : ws ≠ [] := fun z => by
        rw [z] at l2
        cases ys with
        | nil => simp at e2
        | cons _ _ => simp at l2
      exact wOp.of op_catT ⟨a, b, vs, ws, rfl, rfl, ta.sqT, tb.sqT, n1, by rw [l1, l2]; exact maxLen_le hz, fun z => absurd z n2, fun _ p hp => k _ _ _ (.newT w g hp (rx.append ry))⟩
    · cases h
  · cases h
    unfold Rep at hx hy
    rw [hx.1, hy.1]
    exact wOp.of op_sub ⟨_, _, rfl, rfl, k _ _ _ (.int w)⟩
  · split at h
    · cases h
      rename_i hz
      unfold Rep at hx hy
      rw [hx.1, hy.1]
      exact wOp.of op_mulW ⟨_, _, rfl, rfl, hz, k _ _ _ (.int w)⟩
    · cases h
  · split at h
    · cases h
      rename_i hz
      unfold Rep at hx hy
      rw [hx.1, hy.1]
      exact wOp.of op_repS ⟨_, _, rfl, rfl, hz.2.2, hz.2.1, hz.1, k _ _ _ (.str w)⟩
    · cases h
  · split at h
    · cases h
      rename_i xs j hz
      unfold Rep at hx hy
      obtain ⟨a, vs, os', rfl, na, rx, ha⟩ := hx
      rw [if_pos rfl] at ha
      obtain ⟨_, ha, e1⟩ := ha
      subst e1
      rw [hy.1]
      refine wOp.of op_rep ⟨a, j, vs, rfl, rfl, ha, by omega, by omega, by rw [rx.len]; exact maxLen_le hz.1, fun p hp => k _ _ [p] ?_⟩
      have q : newO xs = newO (rep j.toNat xs) ∨ rep j.toNat xs = [] := by
        cases e : j.toNat with
        | zero => exact .inr rfl
        | succ n =>
          left
          unfold newO
          have f : ∀ n, flatL (rep (n + 1) xs) = flatL xs := by
            intro n
            induction n with
            | zero => simp [rep]
            | succ n ih =>
              have e2 : rep (n + 1 + 1) xs = xs ++ rep (n + 1) xs := by simp [rep, List.replicate_succ]
              have fa : ∀ (l m : List D), flatL (l ++ m) = (flatL l && flatL m) := by
                intro l m
                induction l with
                | nil => simp [flatL]
                | cons x l ih => simp [flatL, ih, Bool.and_assoc]
              rw [e2, fa, ih]
              simp
          rw [f]
      rcases q with q | q
      · rw [q]
        exact .newL w g hp (RepL.flatten _ rx)
      · -- nothing in it
        have z : (List.replicate j.toNat vs).flatten = [] := by
          have h1 := (RepL.flatten j.toNat rx).len
          rw [q] at h1
          exact List.eq_nil_of_length_eq_zero h1
        rw [q, z]
        have base : Post X.K CT α H G st .all (.lst []) (.ref p) (upd H p (.lst [])) α [p] := by
          have := Post.newL (K := X.K) (CT := CT) (ds := []) (vs := []) w g hp (by unfold RepL; exact ⟨rfl, rfl⟩)
          exact this
        cases hn : newO xs with
        | all => exact base
        | no => unfold newO at hn; split at hn <;> cases hn
        | top =>
          refine ⟨base.ext, base.ws, ?_, base.fr, base.nd⟩
          have r := base.rep
          unfold Rep at r ⊢
          obtain ⟨a', vs', os'', e1, e2, e3, e4⟩ := r
          refine ⟨a', vs', os'', e1, e2, ?_, ?_⟩
          · unfold RepL at e3 ⊢
            exact e3
          · rw [if_neg (by decide)] at e4 ⊢
            exact e4
    · cases h
  · split at h
    · cases h
      rename_i hz
      unfold Rep at hx hy
      rw [hx.1, hy.1]
      exact wOp.of op_pow ⟨_, _, rfl, rfl, ⟨hz.1, by omega, by have := hz.2.2; omega⟩, k _ _ _ (.int w)⟩
    · cases h
  · split at h
    · cases h
      rename_i hz
      unfold Rep at hx hy
      rw [hx.1, hy.1]
      exact wOp.of op_mod ⟨_, _, rfl, rfl, hz, k _ _ _ (.int w)⟩
    · cases h
  · split at h
    · cases h
      rename_i hz
      unfold Rep at hx hy
      rw [hx.1, hy.1]
      exact wOp.of op_fdivW ⟨_, _, rfl, rfl, hz, k _ _ _ (.int w)⟩
    · cases h
  · cases h
end
end PD
/-! DEq: equality -/
namespace PD
open PySem L2

section
variable {X : Cx} {CT : CTab} {pins : List (Addr × Obj)} {σ : L2.St} {H : Hp} {s : Shared}
theorem isList_of (I : Inv X pins σ H s) {a : Addr} {vs : List V} (h : H a = some (.lst vs)) : ∃ its : List Value, Vals vs its ∧ s.heap.IsList a its.toArray := by
  obtain ⟨its, r, p, _⟩ := I.list (.of h)
  exact ⟨its, r, p.isList⟩
theorem isTup_of (I : Inv X pins σ H s) {α : List Addr} {a : Addr} {vs : List V} (h : TupAt X.K α H a vs) : ∃ its : List Value, Vals vs its ∧ s.heap.IsTuple a its.toArray := by
  obtain ⟨its, r, p, _⟩ := I.tuple h.sqT
  exact ⟨its, r, p⟩
theorem allO_cons {x : Option Bool} {xs : List (Option Bool)} {b : Bool} (h : allO (x :: xs) = some b) : ∃ a c, x = some a ∧ allO xs = some c ∧ b = (a && c) := by
  unfold allO at h
  cases x with
  | none => simp at h
  | some a =>
    cases e : allO xs with
    | none => simp [e] at h
    | some c =>
      simp [e] at h
      exact ⟨a, c, rfl, rfl, h.symm⟩
/-- item by item -/
theorem zw_items {f : D → D → Option Bool} {α : List Addr} {G : Addr → Prop} : ∀ {xs ys : List D} {vs ws : List V} {us zs : List Value} {b : Bool}, allO (zw f xs ys) = some b → RepL X.K CT α G H xs .no vs [] → RepL X.K CT α G H ys .no ws [] →
    Vals vs us → Vals ws zs → ∃ e : Nat → Bool, b = (List.range (min us.length zs.length)).all e ∧ ∀ j (h1 : j < us.length) (h2 : j < zs.length), ∃ d d' v v', f d d' = some (e j) ∧ Rep X.K CT α G H d .no v [] ∧ Rep X.K CT α G H d' .no v' [] ∧ RelV v us[j] ∧ RelV v' zs[j]
  | [], _, _, _, us, zs, b, h, hx, hy, rx, ry => by
    unfold RepL at hx
    obtain rfl := hx.1
    cases rx
    unfold zw allO at h
    cases h
    exact ⟨fun _ => true, by simp, fun j h1 => absurd h1 (by simp)⟩
  | _ :: _, [], _, _, us, zs, b, h, hx, hy, rx, ry => by
    unfold RepL at hy
    obtain rfl := hy.1
    cases ry
    unfold zw allO at h
    cases h
    exact ⟨fun _ => true, by simp, fun j _ h2 => absurd h2 (by simp)⟩
  | x :: xs, y :: ys, _, _, us, zs, b, h, hx, hy, rx, ry => by
    unfold RepL at hx hy
    obtain ⟨v, r, o1, o2, rfl, ho, hx1, hx2⟩ := hx
    obtain ⟨v', r', o1', o2', rfl, ho', hy1, hy2⟩ := hy
    obtain ⟨rfl, rfl⟩ := List.append_eq_nil_iff.mp ho.symm
    obtain ⟨rfl, rfl⟩ := List.append_eq_nil_iff.mp ho'.symm
    cases rx with
    | cons q qs =>
      cases ry with
      | cons q' qs' =>
        unfold zw at h
        obtain ⟨a, c, e1, e2, rfl⟩ := allO_cons h
        obtain ⟨e, he, hj⟩ := zw_items e2 hx2 hy2 qs qs'
        refine ⟨fun j => match j with | 0 => a | j + 1 => e j, ?_, fun j h1 h2 => ?_⟩
        · rw [List.length_cons, List.length_cons, Nat.succ_min_succ, List.range_succ_eq_map, List.all_cons, List.all_map, he]
          rfl
        · cases j with
          | zero => exact ⟨x, y, v, v', e1, hx1, hy1, q, q'⟩
          | succ j => exact hj j (by simpa using h1) (by simpa using h2)
theorem keyR_shape {d : D} {k : Key} (h : keyR d k) : (∃ i, d = .int i ∧ k = .inl i) ∨ ∃ t, d = .str t ∧ k = .inr (toStr t) := by
  cases d <;> first
    | exact .inl ⟨_, rfl, h⟩
    | exact .inr ⟨_, rfl, h⟩
    | exact h.elim
theorem keq_iff {d d' : D} {k k' : Key} (h : keyR d k) (h' : keyR d' k') : keq d d' = true ↔ k = k' := by
  rcases keyR_shape h with ⟨i, rfl, rfl⟩ | ⟨t, rfl, rfl⟩ <;> rcases keyR_shape h' with ⟨j, rfl, rfl⟩ | ⟨u, rfl, rfl⟩
  · simp [keq]
  · simp [keq]
  · simp [keq]
  · simp [keq, toStr_inj]
theorem keyR_kV {d : D} {k : Key} {α : List Addr} {G : Addr → Prop} {o : Own} (h : keyR d k) : Rep X.K CT α G H d o (kV k) [] := by
  rcases keyR_shape h with ⟨i, rfl, rfl⟩ | ⟨t, rfl, rfl⟩
  · unfold Rep
    exact ⟨rfl, rfl⟩
  · unfold Rep
    exact ⟨rfl, rfl⟩
/-- a look into a dict -/
theorem look_rep {α : List Addr} {G : Addr → Prop} {k : D} {kk : Key} {o : Own} (hk : keyR k kk) : ∀ {ks ds : List D} {kvs : List (Key × V)} {os : List Addr}, keysR ks (kvs.map Prod.fst) → RepL X.K CT α G H ds o (kvs.map Prod.snd) os →
    (∀ d, lookD k ks ds = some d → ∃ v os', valV kvs kk = some v ∧ Rep X.K CT α G H d o v os' ∧ os'.Sublist os) ∧ (lookD k ks ds = none → valV kvs kk = none)
  | [], ds, kvs, os, h, r => by
    unfold keysR at h
    have e : kvs = [] := List.map_eq_nil_iff.mp h
    subst e
    exact ⟨fun d q => (by unfold lookD at q; cases q), fun _ => rfl⟩
  | k1 :: ks, [], kvs, os, h, r => by
    unfold RepL at r
    have e : kvs = [] := List.map_eq_nil_iff.mp r.1
    subst e
    exact ⟨fun d q => (by unfold lookD at q; cases q), fun _ => rfl⟩
  | k1 :: ks, d1 :: ds, kvs, os, h, r => by
    cases kvs with
    | nil =>
      unfold keysR at h
      obtain ⟨_, _, e, _⟩ := h
      simp at e
    | cons p kvs =>
      unfold keysR at h
      obtain ⟨c, cs, e, hc, hcs⟩ := h
      obtain ⟨rfl, rfl⟩ := List.cons.inj e
      unfold RepL at r
      obtain ⟨v, vr, os1, os2, e, rfl, r1, r2⟩ := r
      obtain ⟨rfl, rfl⟩ := List.cons.inj e
      obtain ⟨i1, i2⟩ := look_rep hk hcs r2
      by_cases q : keq k1 k = true
      · have ek : p.1 = kk := (keq_iff hc hk).mp q
        refine ⟨fun d hd => ?_, fun hd => ?_⟩
        · unfold lookD at hd
          rw [if_pos q] at hd
          cases hd
          exact ⟨p.2, os1, valV_pos ek, r1, List.sublist_append_left _ _⟩
        · unfold lookD at hd
          rw [if_pos q] at hd
          cases hd
      · have nk : ¬ p.1 = kk := fun z => q ((keq_iff hc hk).mpr z)
        refine ⟨fun d hd => ?_, fun hd => ?_⟩
        · unfold lookD at hd
          rw [if_neg q] at hd
          obtain ⟨v, os', h1, h2, h3⟩ := i1 d hd
          exact ⟨v, os', by rw [valV_neg nk]; exact h1, h2, h3.trans (List.sublist_append_right _ _)⟩
        · unfold lookD at hd
          rw [if_neg q] at hd
          rw [valV_neg nk]
          exact i2 hd
theorem all_cong {β : Type} {f g : β → Bool} : ∀ {l : List β}, (∀ x ∈ l, f x = g x) → l.all f = l.all g
  | [], _ => rfl
  | x :: l, h => by
    rw [List.all_cons, List.all_cons, h x List.mem_cons_self, all_cong fun y hy => h y (List.mem_cons_of_mem _ hy)]
theorem zwD_items {f : D → D → Option Bool} {α : List Addr} {G : Addr → Prop} {ks' ds' : List D} {kvs' : List (Key × V)} {vs' : List (Key × Value)} (hk' : keysR ks' (kvs'.map Prod.fst)) (r' : RepL X.K CT α G H ds' .no (kvs'.map Prod.snd) []) (q' : KV kvs' vs') :
    ∀ {ks ds : List D} {kvs : List (Key × V)} {vs : List (Key × Value)} {b : Bool}, allO (zwD f ks ds ks' ds') = some b → keysR ks (kvs.map Prod.fst) → RepL X.K CT α G H ds .no (kvs.map Prod.snd) [] → KV kvs vs → (vs.map Prod.fst).Nodup →
    ∃ e : Key → Bool, b = (vs.all fun p => (valueAt vs' p.1).isSome && e p.1) ∧ ∀ k v y, (k, v) ∈ vs → valueAt vs' k = some y → ∃ d d' x x', f d d' = some (e k) ∧ Rep X.K CT α G H d .no x [] ∧ Rep X.K CT α G H d' .no x' [] ∧ RelV x v ∧ RelV x' y
  | [], ds, kvs, vs, b, h, hk, r, q, nd => by
    unfold keysR at hk
    have e : kvs = [] := List.map_eq_nil_iff.mp hk
    subst e
    cases q
    unfold zwD allO at h
    cases h
    exact ⟨fun _ => true, by simp, fun k v y hm => absurd hm (by simp)⟩
  | k1 :: ks, [], kvs, vs, b, h, hk, r, q, nd => by
    unfold RepL at r
    have e : kvs = [] := List.map_eq_nil_iff.mp r.1
    subst e
    cases q
    unfold zwD allO at h
    cases h
    exact ⟨fun _ => true, by simp, fun k v y hm => absurd hm (by simp)⟩
  | k1 :: ks, d1 :: ds, kvs, vs, b, h, hk, r, q, nd => by
    cases q with
    | nil =>
      unfold keysR at hk
      obtain ⟨_, _, e, _⟩ := hk
      simp at e
    | @cons p w kvs vs q qs =>
      unfold keysR at hk
      obtain ⟨c, cs, e, hc, hcs⟩ := hk
      obtain ⟨rfl, rfl⟩ := List.cons.inj e
      unfold RepL at r
      obtain ⟨v, vr, os1, os2, e, ho, r1, r2⟩ := r
      obtain ⟨rfl, rfl⟩ := List.cons.inj e
      obtain ⟨rfl, rfl⟩ := List.append_eq_nil_iff.mp ho.symm
      unfold zwD at h
      obtain ⟨a, c, e1, e2, rfl⟩ := allO_cons h
      have nd2 := List.nodup_cons.mp nd
      obtain ⟨e, he, hj⟩ := zwD_items hk' r' q' e2 hcs r2 qs nd2.2
      have lk := look_rep (X := X) (CT := CT) (H := H) hc hk' r'
      have nin : ∀ k v, (k, v) ∈ vs → ¬ k = w.1 := fun k v hm z => nd2.1 (z ▸ List.mem_map_of_mem (f := Prod.fst) hm)
      cases hl : lookD k1 ks' ds' with
      | none =>
        rw [hl] at e1
        have hv : valueAt vs' w.1 = none := RelO.none_of (by rw [← q.1, ← lk.2 hl]; exact q'.val _)
        refine ⟨e, ?_, fun k v y hm hy => ?_⟩
        · cases e1
          simp [List.all_cons, hv]
        · rcases List.mem_cons.mp hm with z | z
          · cases z
            rw [hv] at hy; cases hy
          · exact hj k v y z hy
      | some d' =>
        rw [hl] at e1
        obtain ⟨x', os', h1, h2, h3⟩ := lk.1 d' hl
        have ho' : os' = [] := by simpa using h3
        subst ho'
        obtain ⟨y1, hy1, ry1⟩ := RelO.some_of (v := x') (o := valueAt vs' w.1) (by rw [← q.1, ← h1]; exact q'.val _)
        obtain ⟨e', he1, he2⟩ : ∃ e' : Key → Bool, e' w.1 = a ∧ ∀ p ∈ vs, e' p.1 = e p.1 := ⟨fun k => if k = w.1 then a else e k, if_pos rfl, fun p hp => if_neg (nin p.1 p.2 hp)⟩
        refine ⟨e', ?_, fun k v y hm hy => ?_⟩
        · rw [List.all_cons, hy1, he1, he]
          have e3 : (vs.all fun p => (valueAt vs' p.1).isSome && e' p.1) = vs.all fun p => (valueAt vs' p.1).isSome && e p.1 := all_cong fun p hp => by simp only [he2 p hp]
          rw [e3]
          simp
        · rcases List.mem_cons.mp hm with z | z
          · cases z
            rw [hy1] at hy; cases hy
            rw [he1]
            exact ⟨d1, d', _, _, e1, r1, h2, q.2, ry1⟩
          · rw [he2 _ z]
            exact hj k v y z hy
theorem lst_of {α : List Addr} {G : Addr → Prop} {xs : List D} {v : V} (h : Rep X.K CT α G H (.lst xs) .no v []) : ∃ a vs, v = .ref a ∧ H a = some (.lst vs) ∧ RepL X.K CT α G H xs .no vs [] ∧ a ∉ α ∧ G a := by
  unfold Rep at h
  obtain ⟨a, vs, os', h1, h2, h3, h4⟩ := h
  rw [if_pos rfl] at h4
  obtain ⟨g, h5, rfl⟩ := h4
  exact ⟨a, vs, h1, h5, h3, h2, g⟩
theorem tup_of {α : List Addr} {G : Addr → Prop} {xs : List D} {o : Own} {v : V} {os : List Addr} (h : Rep X.K CT α G H (.tup xs) o v os) : ∃ a vs, v = .ref a ∧ TupAt X.K α H a vs ∧ RepL X.K CT α G H xs o vs os := by
  unfold Rep at h
  exact h
theorem dic_of {α : List Addr} {G : Addr → Prop} {ks ds : List D} {v : V} (h : Rep X.K CT α G H (.dic ks ds) .no v []) :
    ∃ a kvs, v = .ref a ∧ Rd H a (.dK kvs) ∧ keysR ks (kvs.map Prod.fst) ∧ RepL X.K CT α G H ds .no (kvs.map Prod.snd) [] ∧ a ∉ α ∧ G a := by
  unfold Rep at h
  obtain ⟨a, kvs, os', h1, h2, hk, h3, h4⟩ := h
  rw [if_pos rfl] at h4
  obtain ⟨g, h5, rfl⟩ := h4
  exact ⟨a, kvs, h1, h5, hk, h3, h2, g⟩
theorem isL (I : Inv X pins σ H s) {α : List Addr} {G : Addr → Prop} {xs : List D} {v : V} {u : Value} (h : Rep X.K CT α G H (.lst xs) .no v []) (r : RelV v u) : ∃ a its, u = .ref a ∧ s.heap.IsList a its := by
  obtain ⟨a, vs, rfl, e, _⟩ := lst_of h
  obtain ⟨its, _, p⟩ := isList_of I e
  exact ⟨a, _, r, p⟩
theorem isT (I : Inv X pins σ H s) {α : List Addr} {G : Addr → Prop} {xs : List D} {v : V} {u : Value} (h : Rep X.K CT α G H (.tup xs) .no v []) (r : RelV v u) : ∃ a its, u = .ref a ∧ s.heap.IsTuple a its := by
  obtain ⟨a, vs, rfl, e, _⟩ := tup_of h
  obtain ⟨its, _, p⟩ := isTup_of I e
  exact ⟨a, _, r, p⟩
theorem ofN {α : List Addr} {G : Addr → Prop} {v : V} {u : Value} {o : Own} {os : List Addr} (h : Rep X.K CT α G H .non o v os) (r : RelV v u) : u = .none := by
  unfold Rep at h
  rw [h.1] at r
  exact r
theorem ofB {α : List Addr} {G : Addr → Prop} {v : V} {u : Value} {o : Own} {os : List Addr} {b : Bool} (h : Rep X.K CT α G H (.bl b) o v os) (r : RelV v u) : u = .bool b := by
  unfold Rep at h
  rw [h.1] at r
  exact r
theorem ofI {α : List Addr} {G : Addr → Prop} {v : V} {u : Value} {o : Own} {os : List Addr} {i : Int} (h : Rep X.K CT α G H (.int i) o v os) (r : RelV v u) : ∃ t, u = .int i t := by
  unfold Rep at h
  rw [h.1] at r
  exact r
theorem ofS {α : List Addr} {G : Addr → Prop} {v : V} {u : Value} {o : Own} {os : List Addr} {z : List Nat} (h : Rep X.K CT α G H (.str z) o v os) (r : RelV v u) : ∃ t, u = .str (toStr z) t := by
  unfold Rep at h
  rw [h.1] at r
  exact r
theorem beq_toStr {s t : List Nat} : (toStr s == toStr t) = (s == t) := by
  rw [Bool.eq_iff_iff]
  simp [toStr_inj]
/-- a way to tell that two values compare so, at most so deep, that follows the trees; dicts where dk says so -/
structure EqClo (P : Program) (w : World) (s : Shared) (dk : Bool) (E : Nat → Value → Value → Bool → Prop) : Prop where
  leaf : ∀ {n v y b}, (∀ A : Around, A.units + n < cLine → SeqAt.EqAt A s v y b) → E n v y b
  same : ∀ {n v}, E n v v true
  lists : ∀ {n : Nat} {l l' : Addr} {vs vs' : Array Value} {e : Nat → Bool}, l ≠ l' → s.heap.IsList l vs → s.heap.IsList l' vs' → vs.size = vs'.size → (∀ j (h1 : j < vs.size) (h2 : j < vs'.size), E n vs[j] vs'[j] (e j)) → E (n + 1) (.ref l) (.ref l') ((List.range vs.size).all e)
  listsLen : ∀ {n : Nat} {l l' : Addr} {vs vs' : Array Value}, l ≠ l' → s.heap.IsList l vs → s.heap.IsList l' vs' → (vs.size != vs'.size) = true → E (n + 1) (.ref l) (.ref l') false
  tuples : ∀ {n : Nat} {l l' : Addr} {vs vs' : Array Value} {e : Nat → Bool}, l ≠ l' → s.heap.IsTuple l vs → s.heap.IsTuple l' vs' → (∀ j (h1 : j < vs.size) (h2 : j < vs'.size), E n vs[j] vs'[j] (e j)) →
    E (n + 1) (.ref l) (.ref l') ((List.range (min vs.size vs'.size)).all e && vs.size == vs'.size)
  dicts : ∀ {n : Nat} {a b : Addr} {ka kb : List (Key × Value)} {e : Key → Bool}, dk = true → a ≠ b → (a == sysModules) = false → (b == sysModules) = false → s.heap.DictOf (mixKind P w) a ka → s.heap.DictOf (mixKind P w) b kb →
    (∀ k v y, (k, v) ∈ ka → valueAt kb k = some y → E n v y (e k)) → E (n + 1) (.ref a) (.ref b) (ka.length == kb.length && ka.all fun p => (valueAt kb p.1).isSome && e p.1)
theorem cloTree {P : Program} {w : World} : EqClo P w s true (PySem.W.EqTree P w s) := ⟨.leaf, .same, .lists, .listsLen, .tuples, fun _ => .dicts⟩
theorem cloAt {P : Program} {w : World} : EqClo P w s false (fun n v y b => ∀ A : Around, A.units + n < cLine → SeqAt.EqAt A s v y b) where
  leaf h := h
  same := fun A _ => SeqAt.EqAt.same _
  lists hne h1 h2 hs hj := fun A hu => SeqAt.EqAt.of_refs hne (SeqAt.RcAt.lists h1 h2 hs (by omega) fun j a b => hj j a b A.in1 (by show A.units + 1 + _ < cLine; omega))
  listsLen hne h1 h2 hs := fun A hu => SeqAt.EqAt.of_refs hne (SeqAt.RcAt.lists_lengths h1 h2 hs (by omega))
  tuples hne h1 h2 hj := fun A hu => SeqAt.EqAt.of_refs hne (SeqAt.RcAt.tuples h1 h2 (by omega) fun j a b => hj j a b A.in1 (by show A.units + 1 + _ < cLine; omega))
  dicts hd := nomatch hd
variable {E : Nat → Value → Value → Bool → Prop}
/-- two trees whose items are looked into -/
def deeper : D → D → Bool
  | .lst _, .lst _ => true
  | .tup _, .tup _ => true
  | .dic _ _, .dic _ _ => true
  | _, _ => false
theorem deqN_leaf {dk : Bool} {n : Nat} {d e : D} (nd : deeper d e = false) : deqN dk n d e = deqN dk 0 d e := by
  cases n with
  | zero => rfl
  | succ n => cases d <;> cases e <;> first | rfl | (cases nd)
open PySem.SeqAt PySem.W in
theorem eqLeaf {dk : Bool} (C : EqClo X.prog X.w s dk E) (I : Inv X pins σ H s) {α : List Addr} {G : Addr → Prop} {n m : Nat} {d e : D} {b : Bool} (h : deqN dk m d e = some b) (nd : deeper d e = false) {vx vy : V} {u w : Value} (hx : Rep X.K CT α G H d .no vx []) (hy : Rep X.K CT α G H e .no vy [])
    (rx : RelV vx u) (ry : RelV vy w) : E (n + 1) u w b := by
  rw [deqN_leaf nd] at h
  cases d with
  | non => cases e with
    | non => (obtain rfl := ofN hx rx; obtain rfl := ofN hy ry; cases h; exact C.same)
    | bl _ => (obtain rfl := ofN hx rx; obtain rfl := ofB hy ry; cases h; exact C.leaf fun A _ => EqAt.none_bool _)
    | int _ => (obtain rfl := ofN hx rx; obtain ⟨_, rfl⟩ := ofI hy ry; cases h; exact C.leaf fun A _ => EqAt.none_int _ _)
    | str _ => (obtain rfl := ofN hx rx; obtain ⟨_, rfl⟩ := ofS hy ry; cases h; exact C.leaf fun A _ => EqAt.none_str _ _)
    | lst _ => (obtain rfl := ofN hx rx; obtain ⟨_, _, rfl, p⟩ := isL I hy ry; cases h; exact C.leaf fun A hu => EqAt.none_list p (by omega))
    | tup _ => (obtain rfl := ofN hx rx; obtain ⟨_, _, rfl, p⟩ := isT I hy ry; cases h; exact C.leaf fun A hu => EqAt.none_tuple p (by omega))
    | dic _ _ => (cases h)
    | ins _ _ => (cases h)
    | hnd _ => (cases h)
    | scr _ => (cases h)
  | bl _ => cases e with
    | non => (obtain rfl := ofB hx rx; obtain rfl := ofN hy ry; cases h; exact C.leaf fun A _ => EqAt.bool_none _)
    | bl _ => (obtain rfl := ofB hx rx; obtain rfl := ofB hy ry; cases h; exact C.leaf fun A _ => EqAt.bool_bool _ _)
    | int _ => (obtain rfl := ofB hx rx; obtain ⟨_, rfl⟩ := ofI hy ry; cases h; exact C.leaf fun A _ => EqAt.bool_int _ _ _)
    | str _ => (obtain rfl := ofB hx rx; obtain ⟨_, rfl⟩ := ofS hy ry; cases h; exact C.leaf fun A _ => EqAt.bool_str _ _ _)
    | lst _ => (obtain rfl := ofB hx rx; obtain ⟨_, _, rfl, p⟩ := isL I hy ry; cases h; exact C.leaf fun A hu => EqAt.bool_list _ p (by omega))
    | tup _ => (obtain rfl := ofB hx rx; obtain ⟨_, _, rfl, p⟩ := isT I hy ry; cases h; exact C.leaf fun A hu => EqAt.bool_tuple _ p (by omega))
    | dic _ _ => (cases h)
    | ins _ _ => (cases h)
    | hnd _ => (cases h)
    | scr _ => (cases h)
  | int _ => cases e with
    | non => (obtain ⟨_, rfl⟩ := ofI hx rx; obtain rfl := ofN hy ry; cases h; exact C.leaf fun A _ => EqAt.int_none _ _)
    | bl _ => (obtain ⟨_, rfl⟩ := ofI hx rx; obtain rfl := ofB hy ry; cases h; exact C.leaf fun A _ => EqAt.int_bool _ _ _)
    | int _ => (obtain ⟨_, rfl⟩ := ofI hx rx; obtain ⟨_, rfl⟩ := ofI hy ry; cases h; exact C.leaf fun A _ => EqAt.int_int _ _ _ _)
    | str _ => (obtain ⟨_, rfl⟩ := ofI hx rx; obtain ⟨_, rfl⟩ := ofS hy ry; cases h; exact C.leaf fun A _ => EqAt.int_str _ _ _ _)
    | lst _ => (obtain ⟨_, rfl⟩ := ofI hx rx; obtain ⟨_, _, rfl, p⟩ := isL I hy ry; cases h; exact C.leaf fun A hu => EqAt.int_list _ _ p (by omega))
    | tup _ => (obtain ⟨_, rfl⟩ := ofI hx rx; obtain ⟨_, _, rfl, p⟩ := isT I hy ry; cases h; exact C.leaf fun A hu => EqAt.int_tuple _ _ p (by omega))
    | dic _ _ => (cases h)
    | ins _ _ => (cases h)
    | hnd _ => (cases h)
    | scr _ => (cases h)
  | str _ => cases e with
    | non => (obtain ⟨_, rfl⟩ := ofS hx rx; obtain rfl := ofN hy ry; cases h; exact C.leaf fun A _ => EqAt.str_none _ _)
    | bl _ => (obtain ⟨_, rfl⟩ := ofS hx rx; obtain rfl := ofB hy ry; cases h; exact C.leaf fun A _ => EqAt.str_bool _ _ _)
    | int _ => (obtain ⟨_, rfl⟩ := ofS hx rx; obtain ⟨_, rfl⟩ := ofI hy ry; cases h; exact C.leaf fun A _ => EqAt.str_int _ _ _ _)
    | str _ => (obtain ⟨_, rfl⟩ := ofS hx rx; obtain ⟨_, rfl⟩ := ofS hy ry; cases h; exact C.leaf fun A _ => by rw [← beq_toStr]; exact EqAt.str_str _ _ _ _)
    | lst _ => (obtain ⟨_, rfl⟩ := ofS hx rx; obtain ⟨_, _, rfl, p⟩ := isL I hy ry; cases h; exact C.leaf fun A hu => EqAt.str_list _ _ p (by omega))
    | tup _ => (obtain ⟨_, rfl⟩ := ofS hx rx; obtain ⟨_, _, rfl, p⟩ := isT I hy ry; cases h; exact C.leaf fun A hu => EqAt.str_tuple _ _ p (by omega))
    | dic _ _ => (cases h)
    | ins _ _ => (cases h)
    | hnd _ => (cases h)
    | scr _ => (cases h)
  | lst _ => cases e with
    | non => (obtain ⟨_, _, rfl, p⟩ := isL I hx rx; obtain rfl := ofN hy ry; cases h; exact C.leaf fun A hu => EqAt.list_none p (by omega))
    | bl _ => (obtain ⟨_, _, rfl, p⟩ := isL I hx rx; obtain rfl := ofB hy ry; cases h; exact C.leaf fun A hu => EqAt.list_bool _ p (by omega))
    | int _ => (obtain ⟨_, _, rfl, p⟩ := isL I hx rx; obtain ⟨_, rfl⟩ := ofI hy ry; cases h; exact C.leaf fun A hu => EqAt.list_int _ _ p (by omega))
    | str _ => (obtain ⟨_, _, rfl, p⟩ := isL I hx rx; obtain ⟨_, rfl⟩ := ofS hy ry; cases h; exact C.leaf fun A hu => EqAt.list_str _ _ p (by omega))
    | lst _ => (cases nd)
    | tup _ => (obtain ⟨_, _, rfl, p⟩ := isL I hx rx; obtain ⟨_, _, rfl, q⟩ := isT I hy ry; cases h; exact C.leaf fun A hu => EqAt.list_tuple p q (by omega))
    | dic _ _ => (cases h)
    | ins _ _ => (cases h)
    | hnd _ => (cases h)
    | scr _ => (cases h)
  | tup _ => cases e with
    | non => (obtain ⟨_, _, rfl, p⟩ := isT I hx rx; obtain rfl := ofN hy ry; cases h; exact C.leaf fun A hu => EqAt.tuple_none p (by omega))
    | bl _ => (obtain ⟨_, _, rfl, p⟩ := isT I hx rx; obtain rfl := ofB hy ry; cases h; exact C.leaf fun A hu => EqAt.tuple_bool _ p (by omega))
    | int _ => (obtain ⟨_, _, rfl, p⟩ := isT I hx rx; obtain ⟨_, rfl⟩ := ofI hy ry; cases h; exact C.leaf fun A hu => EqAt.tuple_int _ _ p (by omega))
    | str _ => (obtain ⟨_, _, rfl, p⟩ := isT I hx rx; obtain ⟨_, rfl⟩ := ofS hy ry; cases h; exact C.leaf fun A hu => EqAt.tuple_str _ _ p (by omega))
    | lst _ => (obtain ⟨_, _, rfl, p⟩ := isT I hx rx; obtain ⟨_, _, rfl, q⟩ := isL I hy ry; cases h; exact C.leaf fun A hu => EqAt.tuple_list p q (by omega))
    | tup _ => (cases nd)
    | dic _ _ => (cases h)
    | ins _ _ => (cases h)
    | hnd _ => (cases h)
    | scr _ => (cases h)
  | dic _ _ => cases e with
    | non => (cases h)
    | bl _ => (cases h)
    | int _ => (cases h)
    | str _ => (cases h)
    | lst _ => (cases h)
    | tup _ => (cases h)
    | dic _ _ => (cases nd)
    | ins _ _ => (cases h)
    | hnd _ => (cases h)
    | scr _ => (cases h)
  | ins _ _ => cases e with
    | non => (cases h)
    | bl _ => (cases h)
    | int _ => (cases h)
    | str _ => (cases h)
    | lst _ => (cases h)
    | tup _ => (cases h)
    | dic _ _ => (cases h)
    | ins _ _ => (cases h)
    | hnd _ => (cases h)
    | scr _ => (cases h)
  | hnd _ => cases e with
    | non => (cases h)
    | bl _ => (cases h)
    | int _ => (cases h)
    | str _ => (cases h)
    | lst _ => (cases h)
    | tup _ => (cases h)
    | dic _ _ => (cases h)
    | ins _ _ => (cases h)
    | hnd _ => (cases h)
    | scr _ => (cases h)
  | scr _ => cases e with
    | non => (cases h)
    | bl _ => (cases h)
    | int _ => (cases h)
    | str _ => (cases h)
    | lst _ => (cases h)
    | tup _ => (cases h)
    | dic _ _ => (cases h)
    | ins _ _ => (cases h)
    | hnd _ => (cases h)
    | scr _ => (cases h)
theorem no_lt (I : Inv X pins σ H s) {α : List Addr} {G : Addr → Prop} {xs ys : List D} {v : V} (hx : Rep X.K CT α G H (.lst xs) .no v []) (hy : Rep X.K CT α G H (.tup ys) .no v []) : False := by
  obtain ⟨a, vs, rfl, e, _⟩ := lst_of hx
  obtain ⟨c, ws, e2, t, _⟩ := tup_of hy
  obtain rfl : a = c := by injection e2
  obtain ⟨_, _, p⟩ := isList_of I e
  obtain ⟨_, _, q⟩ := isTup_of I t
  exact SeqAt.ne_of_list_tuple p q rfl
theorem sameLeaf {dk : Bool} (I : Inv X pins σ H s) {α : List Addr} {G : Addr → Prop} {m : Nat} {d e : D} {b : Bool} (h : deqN dk m d e = some b) (nd : deeper d e = false) {v : V} (hx : Rep X.K CT α G H d .no v []) (hy : Rep X.K CT α G H e .no v []) : b = true := by
  rw [deqN_leaf nd] at h
  cases d with
  | non => cases e with
    | non => (cases h; rfl)
    | bl _ => (unfold Rep at hx hy; have z := hx.1.symm.trans hy.1; cases z)
    | int _ => (unfold Rep at hx hy; have z := hx.1.symm.trans hy.1; cases z)
    | str _ => (unfold Rep at hx hy; have z := hx.1.symm.trans hy.1; cases z)
    | lst _ => (unfold Rep at hx hy; first | (obtain ⟨_, _, _, e, _⟩ := hx; rw [e] at hy; cases hy.1) | (obtain ⟨_, _, e, _⟩ := hx; rw [e] at hy; cases hy.1) | (obtain ⟨_, _, _, e, _⟩ := hy; rw [e] at hx; cases hx.1) | (obtain ⟨_, _, e, _⟩ := hy; rw [e] at hx; cases hx.1))
    | tup _ => (unfold Rep at hx hy; first | (obtain ⟨_, _, _, e, _⟩ := hx; rw [e] at hy; cases hy.1) | (obtain ⟨_, _, e, _⟩ := hx; rw [e] at hy; cases hy.1) | (obtain ⟨_, _, _, e, _⟩ := hy; rw [e] at hx; cases hx.1) | (obtain ⟨_, _, e, _⟩ := hy; rw [e] at hx; cases hx.1))
    | dic _ _ => (cases h)
    | ins _ _ => (cases h)
    | hnd _ => (cases h)
    | scr _ => (cases h)
  | bl _ => cases e with
    | non => (unfold Rep at hx hy; have z := hx.1.symm.trans hy.1; cases z)
    | bl _ => (unfold Rep at hx hy; have z := hx.1.symm.trans hy.1; cases z; cases h; simp)
    | int _ => (unfold Rep at hx hy; have z := hx.1.symm.trans hy.1; cases z)
    | str _ => (unfold Rep at hx hy; have z := hx.1.symm.trans hy.1; cases z)
    | lst _ => (unfold Rep at hx hy; first | (obtain ⟨_, _, _, e, _⟩ := hx; rw [e] at hy; cases hy.1) | (obtain ⟨_, _, e, _⟩ := hx; rw [e] at hy; cases hy.1) | (obtain ⟨_, _, _, e, _⟩ := hy; rw [e] at hx; cases hx.1) | (obtain ⟨_, _, e, _⟩ := hy; rw [e] at hx; cases hx.1))
    | tup _ => (unfold Rep at hx hy; first | (obtain ⟨_, _, _, e, _⟩ := hx; rw [e] at hy; cases hy.1) | (obtain ⟨_, _, e, _⟩ := hx; rw [e] at hy; cases hy.1) | (obtain ⟨_, _, _, e, _⟩ := hy; rw [e] at hx; cases hx.1) | (obtain ⟨_, _, e, _⟩ := hy; rw [e] at hx; cases hx.1))
    | dic _ _ => (cases h)
    | ins _ _ => (cases h)
    | hnd _ => (cases h)
    | scr _ => (cases h)
  | int _ => cases e with
    | non => (unfold Rep at hx hy; have z := hx.1.symm.trans hy.1; cases z)
    | bl _ => (unfold Rep at hx hy; have z := hx.1.symm.trans hy.1; cases z)
    | int _ => (unfold Rep at hx hy; have z := hx.1.symm.trans hy.1; cases z; cases h; simp)
    | str _ => (unfold Rep at hx hy; have z := hx.1.symm.trans hy.1; cases z)
    | lst _ => (unfold Rep at hx hy; first | (obtain ⟨_, _, _, e, _⟩ := hx; rw [e] at hy; cases hy.1) | (obtain ⟨_, _, e, _⟩ := hx; rw [e] at hy; cases hy.1) | (obtain ⟨_, _, _, e, _⟩ := hy; rw [e] at hx; cases hx.1) | (obtain ⟨_, _, e, _⟩ := hy; rw [e] at hx; cases hx.1))
    | tup _ => (unfold Rep at hx hy; first | (obtain ⟨_, _, _, e, _⟩ := hx; rw [e] at hy; cases hy.1) | (obtain ⟨_, _, e, _⟩ := hx; rw [e] at hy; cases hy.1) | (obtain ⟨_, _, _, e, _⟩ := hy; rw [e] at hx; cases hx.1) | (obtain ⟨_, _, e, _⟩ := hy; rw [e] at hx; cases hx.1))
    | dic _ _ => (cases h)
    | ins _ _ => (cases h)
    | hnd _ => (cases h)
    | scr _ => (cases h)
  | str _ => cases e with
    | non => (unfold Rep at hx hy; have z := hx.1.symm.trans hy.1; cases z)
    | bl _ => (unfold Rep at hx hy; have z := hx.1.symm.trans hy.1; cases z)
    | int _ => (unfold Rep at hx hy; have z := hx.1.symm.trans hy.1; cases z)
    | str _ => (unfold Rep at hx hy; have z := hx.1.symm.trans hy.1; injection z with z; have z := toStr_inj.mp z; subst z; cases h; simp)
    | lst _ => (unfold Rep at hx hy; first | (obtain ⟨_, _, _, e, _⟩ := hx; rw [e] at hy; cases hy.1) | (obtain ⟨_, _, e, _⟩ := hx; rw [e] at hy; cases hy.1) | (obtain ⟨_, _, _, e, _⟩ := hy; rw [e] at hx; cases hx.1) | (obtain ⟨_, _, e, _⟩ := hy; rw [e] at hx; cases hx.1))
    | tup _ => (unfold Rep at hx hy; first | (obtain ⟨_, _, _, e, _⟩ := hx; rw [e] at hy; cases hy.1) | (obtain ⟨_, _, e, _⟩ := hx; rw [e] at hy; cases hy.1) | (obtain ⟨_, _, _, e, _⟩ := hy; rw [e] at hx; cases hx.1) | (obtain ⟨_, _, e, _⟩ := hy; rw [e] at hx; cases hx.1))
    | dic _ _ => (cases h)
    | ins _ _ => (cases h)
    | hnd _ => (cases h)
    | scr _ => (cases h)
  | lst _ => cases e with
    | non => (unfold Rep at hx hy; first | (obtain ⟨_, _, _, e, _⟩ := hx; rw [e] at hy; cases hy.1) | (obtain ⟨_, _, e, _⟩ := hx; rw [e] at hy; cases hy.1) | (obtain ⟨_, _, _, e, _⟩ := hy; rw [e] at hx; cases hx.1) | (obtain ⟨_, _, e, _⟩ := hy; rw [e] at hx; cases hx.1))
    | bl _ => (unfold Rep at hx hy; first | (obtain ⟨_, _, _, e, _⟩ := hx; rw [e] at hy; cases hy.1) | (obtain ⟨_, _, e, _⟩ := hx; rw [e] at hy; cases hy.1) | (obtain ⟨_, _, _, e, _⟩ := hy; rw [e] at hx; cases hx.1) | (obtain ⟨_, _, e, _⟩ := hy; rw [e] at hx; cases hx.1))
    | int _ => (unfold Rep at hx hy; first | (obtain ⟨_, _, _, e, _⟩ := hx; rw [e] at hy; cases hy.1) | (obtain ⟨_, _, e, _⟩ := hx; rw [e] at hy; cases hy.1) | (obtain ⟨_, _, _, e, _⟩ := hy; rw [e] at hx; cases hx.1) | (obtain ⟨_, _, e, _⟩ := hy; rw [e] at hx; cases hx.1))
    | str _ => (unfold Rep at hx hy; first | (obtain ⟨_, _, _, e, _⟩ := hx; rw [e] at hy; cases hy.1) | (obtain ⟨_, _, e, _⟩ := hx; rw [e] at hy; cases hy.1) | (obtain ⟨_, _, _, e, _⟩ := hy; rw [e] at hx; cases hx.1) | (obtain ⟨_, _, e, _⟩ := hy; rw [e] at hx; cases hx.1))
    | lst _ => (cases nd)
    | tup _ => (exact (no_lt I hx hy).elim)
    | dic _ _ => (cases h)
    | ins _ _ => (cases h)
    | hnd _ => (cases h)
    | scr _ => (cases h)
  | tup _ => cases e with
    | non => (unfold Rep at hx hy; first | (obtain ⟨_, _, _, e, _⟩ := hx; rw [e] at hy; cases hy.1) | (obtain ⟨_, _, e, _⟩ := hx; rw [e] at hy; cases hy.1) | (obtain ⟨_, _, _, e, _⟩ := hy; rw [e] at hx; cases hx.1) | (obtain ⟨_, _, e, _⟩ := hy; rw [e] at hx; cases hx.1))
    | bl _ => (unfold Rep at hx hy; first | (obtain ⟨_, _, _, e, _⟩ := hx; rw [e] at hy; cases hy.1) | (obtain ⟨_, _, e, _⟩ := hx; rw [e] at hy; cases hy.1) | (obtain ⟨_, _, _, e, _⟩ := hy; rw [e] at hx; cases hx.1) | (obtain ⟨_, _, e, _⟩ := hy; rw [e] at hx; cases hx.1))
    | int _ => (unfold Rep at hx hy; first | (obtain ⟨_, _, _, e, _⟩ := hx; rw [e] at hy; cases hy.1) | (obtain ⟨_, _, e, _⟩ := hx; rw [e] at hy; cases hy.1) | (obtain ⟨_, _, _, e, _⟩ := hy; rw [e] at hx; cases hx.1) | (obtain ⟨_, _, e, _⟩ := hy; rw [e] at hx; cases hx.1))
    | str _ => (unfold Rep at hx hy; first | (obtain ⟨_, _, _, e, _⟩ := hx; rw [e] at hy; cases hy.1) | (obtain ⟨_, _, e, _⟩ := hx; rw [e] at hy; cases hy.1) | (obtain ⟨_, _, _, e, _⟩ := hy; rw [e] at hx; cases hx.1) | (obtain ⟨_, _, e, _⟩ := hy; rw [e] at hx; cases hx.1))
    | lst _ => (exact (no_lt I hy hx).elim)
    | tup _ => (cases nd)
    | dic _ _ => (cases h)
    | ins _ _ => (cases h)
    | hnd _ => (cases h)
    | scr _ => (cases h)
  | dic _ _ => cases e with
    | non => (cases h)
    | bl _ => (cases h)
    | int _ => (cases h)
    | str _ => (cases h)
    | lst _ => (cases h)
    | tup _ => (cases h)
    | dic _ _ => (cases nd)
    | ins _ _ => (cases h)
    | hnd _ => (cases h)
    | scr _ => (cases h)
  | ins _ _ => cases e with
    | non => (cases h)
    | bl _ => (cases h)
    | int _ => (cases h)
    | str _ => (cases h)
    | lst _ => (cases h)
    | tup _ => (cases h)
    | dic _ _ => (cases h)
    | ins _ _ => (cases h)
    | hnd _ => (cases h)
    | scr _ => (cases h)
  | hnd _ => cases e with
    | non => (cases h)
    | bl _ => (cases h)
    | int _ => (cases h)
    | str _ => (cases h)
    | lst _ => (cases h)
    | tup _ => (cases h)
    | dic _ _ => (cases h)
    | ins _ _ => (cases h)
    | hnd _ => (cases h)
    | scr _ => (cases h)
  | scr _ => cases e with
    | non => (cases h)
    | bl _ => (cases h)
    | int _ => (cases h)
    | str _ => (cases h)
    | lst _ => (cases h)
    | tup _ => (cases h)
    | dic _ _ => (cases h)
    | ins _ _ => (cases h)
    | hnd _ => (cases h)
    | scr _ => (cases h)
/-- items at one place, the same values -/
theorem zw_same {f : D → D → Option Bool} {α : List Addr} {G : Addr → Prop} (ih : ∀ d e b, f d e = some b → ∀ {v : V}, Rep X.K CT α G H d .no v [] → Rep X.K CT α G H e .no v [] → b = true) : ∀ {xs ys : List D} {vs : List V} {b : Bool}, allO (zw f xs ys) = some b → RepL X.K CT α G H xs .no vs [] → RepL X.K CT α G H ys .no vs [] → b = true
  | [], _, _, b, h, _, _ => by
    unfold zw allO at h
    cases h
    rfl
  | _ :: _, [], _, b, h, _, _ => by
    unfold zw allO at h
    cases h
    rfl
  | x :: xs, y :: ys, vs, b, h, hx, hy => by
    unfold RepL at hx hy
    obtain ⟨v, r, o1, o2, rfl, ho, hx1, hx2⟩ := hx
    obtain ⟨v', r', o1', o2', e, ho', hy1, hy2⟩ := hy
    obtain ⟨rfl, rfl⟩ := List.cons.inj e
    obtain ⟨rfl, rfl⟩ := List.append_eq_nil_iff.mp ho.symm
    obtain ⟨rfl, rfl⟩ := List.append_eq_nil_iff.mp ho'.symm
    unfold zw at h
    obtain ⟨a, c, e1, e2, rfl⟩ := allO_cons h
    rw [ih x y a e1 hx1 hy1, zw_same ih e2 hx2 hy2]
    rfl
theorem keysR_inj : ∀ {ks ks' : List D} {l : List Key}, keysR ks l → keysR ks' l → ks = ks'
  | [], [], _, _, _ => rfl
  | [], _ :: _, _, h, h' => by
    unfold keysR at h h'
    obtain ⟨_, _, e, _⟩ := h'
    rw [h] at e; cases e
  | _ :: _, [], _, h, h' => by
    unfold keysR at h h'
    obtain ⟨_, _, e, _⟩ := h
    rw [h'] at e; cases e
  | k :: ks, k' :: ks', l, h, h' => by
    unfold keysR at h h'
    obtain ⟨c, r, rfl, h1, h2⟩ := h
    obtain ⟨c', r', e, h1', h2'⟩ := h'
    obtain ⟨rfl, rfl⟩ := List.cons.inj e
    rw [keysR_inj h2 h2']
    congr 1
    rcases keyR_shape h1 with ⟨i, rfl, rfl⟩ | ⟨t, rfl, rfl⟩ <;> rcases keyR_shape h1' with ⟨j, rfl, e⟩ | ⟨u, rfl, e⟩
    · injection e with e; rw [e]
    · cases e
    · cases e
    · injection e with e; rw [toStr_inj.mp e]
theorem keysR_len : ∀ {ks : List D} {l : List Key}, keysR ks l → l.length = ks.length
  | [], l, h => by
    unfold keysR at h
    rw [h]
    rfl
  | k :: ks, l, h => by
    unfold keysR at h
    obtain ⟨c, r, rfl, _, h2⟩ := h
    rw [List.length_cons, List.length_cons, keysR_len h2]
theorem lookD_here {k : D} {ks ds : List D} {v : D} : lookD k (k :: ks) (v :: ds) = some v ∨ keq k k = false := by
  cases e : keq k k with
  | true => left; unfold lookD; rw [if_pos e]
  | false => exact .inr rfl
/-- the values under the same keys -/
theorem zwD_same {f : D → D → Option Bool} {α : List Addr} {G : Addr → Prop} (ih : ∀ d e b, f d e = some b → ∀ {v : V}, Rep X.K CT α G H d .no v [] → Rep X.K CT α G H e .no v [] → b = true) {ks' ds' : List D} {kvs' : List (Key × V)}
    (hk' : keysR ks' (kvs'.map Prod.fst)) (r' : RepL X.K CT α G H ds' .no (kvs'.map Prod.snd) []) : ∀ {ks ds : List D} {kvs : List (Key × V)} {b : Bool}, allO (zwD f ks ds ks' ds') = some b → keysR ks (kvs.map Prod.fst) → RepL X.K CT α G H ds .no (kvs.map Prod.snd) [] →
    (∀ p ∈ kvs, valV kvs' p.1 = some p.2) → b = true
  | [], _, _, b, h, _, _, _ => by
    unfold zwD allO at h
    cases h
    rfl
  | _ :: _, [], _, b, h, _, _, _ => by
    unfold zwD allO at h
    cases h
    rfl
  | k :: ks, d :: ds, kvs, b, h, hk, r, hv => by
    cases kvs with
    | nil =>
      unfold keysR at hk
      obtain ⟨_, _, e, _⟩ := hk
      simp at e
    | cons p kvs =>
      unfold keysR at hk
      obtain ⟨c, cs, e, hc, hcs⟩ := hk
      obtain ⟨rfl, rfl⟩ := List.cons.inj e
      unfold RepL at r
      obtain ⟨v, vr, os1, os2, e, ho, r1, r2⟩ := r
      obtain ⟨rfl, rfl⟩ := List.cons.inj e
      obtain ⟨rfl, rfl⟩ := List.append_eq_nil_iff.mp ho.symm
      unfold zwD at h
      obtain ⟨a, c, e1, e2, rfl⟩ := allO_cons h
      rw [zwD_same ih hk' r' e2 hcs r2 fun q hq => hv q (List.mem_cons_of_mem _ hq)]
      have lk := look_rep (X := X) (CT := CT) (H := H) hc hk' r'
      have hp := hv p List.mem_cons_self
      cases hl : lookD k ks' ds' with
      | none =>
        rw [lk.2 hl] at hp
        cases hp
      | some d' =>
        rw [hl] at e1
        obtain ⟨x', os', h1, h2, h3⟩ := lk.1 d' hl
        have ho' : os' = [] := by simpa using h3
        subst ho'
        rw [hp] at h1
        cases h1
        rw [ih d d' a e1 r1 h2]
        rfl
theorem valV_self : ∀ {kvs : List (Key × V)}, (kvs.map Prod.fst).Nodup → ∀ p ∈ kvs, valV kvs p.1 = some p.2
  | q :: kvs, nd, p, hp => by
    have nd2 := List.nodup_cons.mp nd
    rcases List.mem_cons.mp hp with z | z
    · subst z
      exact valV_pos rfl
    · have ne : ¬ q.1 = p.1 := fun e => nd2.1 (e ▸ List.mem_map_of_mem (f := Prod.fst) z)
      rw [valV_neg ne]
      exact valV_self nd2.2 p z
theorem kv_fst : ∀ {kvs : List (Key × V)} {vs : List (Key × Value)}, KV kvs vs → kvs.map Prod.fst = vs.map Prod.fst
  | _, _, .nil => rfl
  | _, _, .cons h t => by
    rw [List.map_cons, List.map_cons, h.1, kv_fst t]
/-- a dict that is read -/
theorem dict_of (I : Inv X pins σ H s) {a : Addr} {kvs : List (Key × V)} (h : Rd H a (.dK kvs)) : (a == sysModules) = false ∧ ∃ vs, KV kvs vs ∧ s.heap.DictOf (mixKind X.prog X.w) a vs ∧ (vs.map Prod.fst).Nodup := by
  obtain ⟨_, z, vs, r, d⟩ := h.ok I.hok
  exact ⟨z, vs, r, d, d.choose_spec.choose_spec.choose_spec.2.2.2.2.2⟩
theorem eqSame {dk : Bool} (I : Inv X pins σ H s) {α : List Addr} {G : Addr → Prop} : ∀ (n : Nat) (d e : D) (b : Bool), deqN dk n d e = some b → ∀ {v : V}, Rep X.K CT α G H d .no v [] → Rep X.K CT α G H e .no v [] → b = true := by
  intro n
  induction n with
  | zero =>
    intro d e b h v hx hy
    refine sameLeaf I h ?_ hx hy
    cases d <;> cases e <;> first
      | rfl
      | (simp [deqN] at h; done)
  | succ n ih =>
    intro d e b h v hx hy
    cases hd : deeper d e with
    | false => exact sameLeaf I h hd hx hy
    | true =>
      cases d <;> cases e <;> first
        | (simp [deeper] at hd; done)
        | skip
      · obtain ⟨a, vs, rfl, ha, hx, _⟩ := lst_of hx
        obtain ⟨c, ws, e1, hc, hy, _⟩ := lst_of hy
        obtain rfl : a = c := by injection e1
        obtain rfl : vs = ws := by
          rw [ha] at hc
          injection hc with z
          injection z
        simp only [deqN] at h
        split at h
        · exact zw_same ih h hx hy
        · rename_i hl
          exact absurd (hx.len.symm.trans hy.len) hl
      · obtain ⟨a, vs, rfl, ha, hx⟩ := tup_of hx
        obtain ⟨c, ws, e1, hc, hy⟩ := tup_of hy
        obtain rfl : a = c := by injection e1
        obtain rfl : vs = ws := I.tuple_inj ha.sqT hc.sqT
        simp only [deqN] at h
        split at h
        · exact zw_same ih h hx hy
        · rename_i hl
          exact absurd (hx.len.symm.trans hy.len) hl
      · obtain ⟨a, kvs, rfl, ha, hk, hx2, _⟩ := dic_of hx
        obtain ⟨c, kvs', e1, hc, hk', hy2, _⟩ := dic_of hy
        obtain rfl : a = c := by injection e1
        obtain ⟨_, vs, r, dd, nd⟩ := dict_of I ha
        obtain rfl : kvs = kvs' := by
          rcases ha with ha | ⟨o, ha⟩ <;> rcases hc with hc | ⟨o', hc⟩ <;> rw [ha] at hc <;> cases hc <;> rfl
        obtain rfl := keysR_inj hk hk'
        rw [← kv_fst r] at nd
        simp only [deqN] at h
        split at h
        case isFalse => cases h
        obtain ⟨c, hc2, rfl⟩ := Option.map_eq_some_iff.mp h
        rw [zwD_same ih hk' hy2 hc2 hk hx2 (valV_self nd)]
        simp
open PySem.SeqAt PySem.W in
theorem eqT {dk : Bool} (C : EqClo X.prog X.w s dk E) (I : Inv X pins σ H s) {α : List Addr} {G : Addr → Prop} : ∀ (n : Nat) (d e : D) (b : Bool), deqN dk n d e = some b → ∀ {vx vy : V} {u w : Value}, Rep X.K CT α G H d .no vx [] → Rep X.K CT α G H e .no vy [] → RelV vx u → RelV vy w →
    E (n + 1) u w b := by
  intro n
  induction n with
  | zero =>
    intro d e b h vx vy u w hx hy rx ry
    refine eqLeaf C I h ?_ hx hy rx ry
    cases d <;> cases e <;> first
      | rfl
      | (simp [deqN] at h; done)
  | succ n ih =>
    intro d e b h vx vy u w hx hy rx ry
    cases hd : deeper d e with
    | false => exact eqLeaf C I h hd hx hy rx ry
    | true =>
      by_cases hv : vx = vy
      · subst hv
        obtain rfl := eqSame I (n + 1) d e b h hx hy
        have hr : ∃ a, vx = .ref a := by
          cases d <;> cases e <;> first
            | (simp [deeper] at hd; done)
            | skip
          · obtain ⟨a, _, e, _⟩ := lst_of hx; exact ⟨a, e⟩
          · obtain ⟨a, _, e, _⟩ := tup_of hx; exact ⟨a, e⟩
          · obtain ⟨a, _, e, _⟩ := dic_of hx; exact ⟨a, e⟩
        obtain ⟨a, rfl⟩ := hr
        obtain rfl : u = .ref a := rx
        obtain rfl : w = .ref a := ry
        exact C.same
      cases d <;> cases e <;> first
        | (simp [deeper] at hd; done)
        | skip
      · -- lists
        rename_i xs ys
        obtain ⟨a, vs, rfl, ha, hx2, _⟩ := lst_of hx
        obtain ⟨c, ws, rfl, hc, hy2, _⟩ := lst_of hy
        obtain ⟨us, ru, pu⟩ := isList_of I ha
        obtain ⟨zs, rz, pz⟩ := isList_of I hc
        obtain rfl : u = .ref a := rx
        obtain rfl : w = .ref c := ry
        have hac : a ≠ c := fun z => hv (by rw [z])
        have l1 : us.length = xs.length := by rw [← ru.length, hx2.len]
        have l2 : zs.length = ys.length := by rw [← rz.length, hy2.len]
        simp only [deqN] at h
        split at h
        · rename_i hl
          obtain ⟨e, rfl, hj⟩ := zw_items h hx2 hy2 ru rz
          have hl' : us.length = zs.length := by omega
          have := C.lists (n := n + 1) (e := e) hac pu pz (by simpa using hl') fun j h1 h2 => by
            obtain ⟨d, d', v, v', q1, q2, q3, q4, q5⟩ := hj j (by simpa using h1) (by simpa using h2)
            exact ih d d' _ q1 q2 q3 (by simpa using q4) (by simpa using q5)
          rw [show min us.length zs.length = us.toArray.size by simp [hl']]
          exact this
        · rename_i hl
          cases h
          exact C.listsLen hac pu pz (by simp; omega)
      · -- tuples
        rename_i xs ys
        obtain ⟨a, vs, rfl, ha, hx2⟩ := tup_of hx
        obtain ⟨c, ws, rfl, hc, hy2⟩ := tup_of hy
        obtain ⟨us, ru, pu⟩ := isTup_of I ha
        obtain ⟨zs, rz, pz⟩ := isTup_of I hc
        obtain rfl : u = .ref a := rx
        obtain rfl : w = .ref c := ry
        have hac : a ≠ c := fun z => hv (by rw [z])
        have l1 : us.length = xs.length := by rw [← ru.length, hx2.len]
        have l2 : zs.length = ys.length := by rw [← rz.length, hy2.len]
        have key : ∀ b', allO (zw (deqN dk n) xs ys) = some b' → E (n + 1 + 1) (.ref a) (.ref c) (b' && us.length == zs.length) := by
          intro b' hb'
          obtain ⟨e, rfl, hj⟩ := zw_items hb' hx2 hy2 ru rz
          have := C.tuples (n := n + 1) (e := e) hac pu pz fun j h1 h2 => by
            obtain ⟨d, d', v, v', q1, q2, q3, q4, q5⟩ := hj j (by simpa using h1) (by simpa using h2)
            exact ih d d' _ q1 q2 q3 (by simpa using q4) (by simpa using q5)
          simpa using this
        simp only [deqN] at h
        split at h
        · rename_i hl
          have := key b h
          rw [show (us.length == zs.length) = true by simp; omega] at this
          simpa using this
        · rename_i hl
          obtain ⟨c2, hc2, rfl⟩ := Option.map_eq_some_iff.mp h
          have := key c2 hc2
          rw [show (us.length == zs.length) = false by simp; omega] at this
          simpa using this
      · -- dicts
        rename_i ks ds ks' ds'
        obtain ⟨a, kvs, rfl, ha, hk, hx2, _⟩ := dic_of hx
        obtain ⟨c, kvs', rfl, hc, hk', hy2, _⟩ := dic_of hy
        obtain ⟨sa, vs, r, dd, nd⟩ := dict_of I ha
        obtain ⟨sc, vs', r', dd', _⟩ := dict_of I hc
        obtain rfl : u = .ref a := rx
        obtain rfl : w = .ref c := ry
        have hac : a ≠ c := fun z => hv (by rw [z])
        simp only [deqN] at h
        split at h
        case isFalse => cases h
        rename_i hdk
        obtain ⟨c2, hc2, rfl⟩ := Option.map_eq_some_iff.mp h
        obtain ⟨e, rfl, hj⟩ := zwD_items hk' hy2 r' hc2 hk hx2 r nd
        have := C.dicts (n := n + 1) (e := e) hdk hac sa sc dd dd' fun k v y hm hy => by
          obtain ⟨d, d', x, x', q1, q2, q3, q4, q5⟩ := hj k v y hm hy
          exact ih d d' _ q1 q2 q3 q4 q5
        have e1 : vs.length = ks.length := by
          have := keysR_len hk
          rw [List.length_map] at this
          rw [← this]
          exact (Paired.length r).symm
        have e2 : vs'.length = ks'.length := by
          have := keysR_len hk'
          rw [List.length_map] at this
          rw [← this]
          exact (Paired.length r').symm
        rw [e1, e2] at this
        exact this
end
end PD
/-! DNe: != of lists, tuples and dicts whose items compare in this very program -/
namespace PD
open PySem PySem.SeqAt PySem.W
open AutoSeq1 (wpAny_loadPart')
open MeetsSeq MeetsSeq2 MeetsSeq3

abbrev Key := L2.Key
abbrev LO (dd : Option Addr) (xs : Array Value) (n : Nat) (sl : Array (Option Value)) : Obj := { cls := .type "list", dict := dd, data := .seq xs n, slots := sl }
abbrev TO (dd : Option Addr) (xs : Array Value) (n : Nat) (sl : Array (Option Value)) : Obj := { cls := .type "tuple", dict := dd, data := .seq xs n, slots := sl }
section
variable {P : Program} {w : World}
theorem neLoop (p q : Addr) (xs ys : Array Value) (n m : Nat) (d1 d2 : Option Addr) (s1 s2 : Array (Option Value)) (hs : xs.size = ys.size) (e : Nat → Bool) (k : Nat) : ∀ i : Nat, xs.size - i = k →
    MeetsIn P w (Builtin.«list.__eq__.loop» ⟨[.ref p, .ref q, rawInt i, rawInt 3], []⟩) (fun A R s => s.heap.get? p = some (LO d1 xs n s1) ∧ s.heap.get? q = some (LO d2 ys m s2) ∧
      (∀ j (a : j < xs.size) (b : j < ys.size), EqIn P w A.in1 s xs[j] ys[j] (e j)) ∧ R (.ok (.ret (.bool (!((List.range xs.size).drop i).all e)))) s) := by
  induction k with
  | zero =>
    rintro i hi A R ⟨hp, g, d, tk, os⟩ ⟨e1, e2, hj, hR⟩
    wp_walk using wpAny_loadPart' e1, wpAny_loadPart' e2
    rw [show xs[((i : Nat) : Int).toNat]? = none by simp; omega, show ys[((i : Nat) : Int).toNat]? = none by simp; omega]
    rw [show (List.range xs.size).drop i = [] by simp; omega] at hR
    wp_walk using wpAny_loadPart' e1, wpAny_loadPart' e2
    show R (.ok (.ret (.bool (xs.size != ys.size)))) _
    simpa [hs] using hR
  | succ k ih =>
    rintro i hi A R ⟨hp, g, d, tk, os⟩ ⟨e1, e2, hj, hR⟩
    wp_walk using wpAny_loadPart' e1, wpAny_loadPart' e2
    have a : i < xs.size := by omega
    have b : i < ys.size := by omega
    rw [show xs[((i : Nat) : Int).toNat]? = some xs[i] by simp [a], show ys[((i : Nat) : Int).toNat]? = some ys[i] by simp [b]]
    rw [show (List.range xs.size).drop i = i :: (List.range xs.size).drop (i + 1) by simp [List.drop_eq_getElem_cons, a], List.all_cons] at hR
    refine wpAny_bind (hj i a b _ _ ?_)
    cases he : e i <;> rw [he] at hR
    · wp_walk using wpAny_loadPart' e1, wpAny_loadPart' e2
      rw [show xs[((i : Nat) : Int).toNat]? = some xs[i] by simp [a], show ys[((i : Nat) : Int).toNat]? = some ys[i] by simp [b]]
      wp_walk
      simpa using hR
    · wp_walk
      rw [show ((i : Int) + 1) = ((i + 1 : Nat) : Int) by push_cast; rfl]
      refine ⟨plainId_quiet plain_eq_loop _, codeAny_builtin entry_eq_loop ?_⟩
      rw [Around.under_plainId plain_eq_loop _]
      exact ih (i + 1) (by omega) A R _ ⟨e1, e2, hj, by simpa using hR⟩
theorem ne_lists {A : Around} {E : Value → Shared → Prop} {s : Shared} {p q : Addr} {xs ys : Array Value} {e : Nat → Bool} {Q : Value → Shared → Prop} (hp : s.heap.IsList p xs) (hq : s.heap.IsList q ys) (hs : xs.size = ys.size) (hu : A.units < cLine)
    (hj : ∀ j (a : j < xs.size) (b : j < ys.size), EqIn P w A.in1 s xs[j] ys[j] (e j)) (h : Q (.bool (!(List.range xs.size).all e)) s) : wpAny (model P w) A (compareOp .NotEq (.ref p) (.ref q)) Q E s := by
  have ⟨⟨c1, d1, t1, s1⟩, e1, g1, n, f1⟩ := hp
  have ⟨⟨c2, d2, t2, s2⟩, e2, g2, m, f2⟩ := hq
  dsimp only at g1 f1 g2 f2
  subst g1 f1 g2 f2
  have body : MeetsIn P w (Builtin.«list.__ne__» ⟨[.ref p, .ref q], []⟩) (fun A R s => s.heap.get? p = some (LO d1 xs n s1) ∧ s.heap.get? q = some (LO d2 ys m s2) ∧
      (∀ j (a : j < xs.size) (b : j < ys.size), EqIn P w A.in1 s xs[j] ys[j] (e j)) ∧ R (.ok (.ret (.bool (!(List.range xs.size).all e)))) s) := by
    rintro A R ⟨hp, g, d, tk, os⟩ ⟨e1, e2, hj, hR⟩
    have f3 := AutoSeq1.sub_list_list
    have hn : ¬ (xs.size != ys.size) = true := by simp [hs]
    wp_walk using wpAny_loadPart' e1, wpAny_loadPart' e2
    refine ⟨plainId_quiet plain_eq_loop _, codeAny_builtin entry_eq_loop ?_⟩
    rw [Around.under_plainId plain_eq_loop _]
    exact neLoop p q xs ys n m d1 d2 s1 s2 hs e _ 0 rfl A R _ ⟨e1, e2, hj, by simpa using hR⟩
  exact wpAny_richCompare_same_room (T := "list") (op := .NotEq) ⟨_, e1, rfl⟩ ⟨_, e2, rfl⟩ F.slot_list_ne
    (call_meetsIn F.slot_list_ne ⟨_, e1, rfl⟩ F.entry_list_ne (F.args_list_ne_2 _ _) body ⟨e1, e2, hj, ⟨(fun x => nomatch x), h⟩⟩) hu
theorem ne_listsLen {A : Around} {E : Value → Shared → Prop} {s : Shared} {p q : Addr} {xs ys : Array Value} {Q : Value → Shared → Prop} (hp : s.heap.IsList p xs) (hq : s.heap.IsList q ys) (hs : (xs.size != ys.size) = true) (hu : A.units < cLine)
    (h : Q (.bool true) s) : wpAny (model P w) A (compareOp .NotEq (.ref p) (.ref q)) Q E s := by
  have ⟨⟨c1, d1, t1, s1⟩, e1, g1, n, f1⟩ := hp
  have ⟨⟨c2, d2, t2, s2⟩, e2, g2, m, f2⟩ := hq
  dsimp only at g1 f1 g2 f2
  subst g1 f1 g2 f2
  exact wpAny_richCompare_same_room (T := "list") (op := .NotEq) ⟨_, e1, rfl⟩ ⟨_, e2, rfl⟩ F.slot_list_ne
    (call_meets F.slot_list_ne ⟨_, e1, rfl⟩ F.entry_list_ne (F.args_list_ne_2 _ _) (list_ne_lengthsAt p q xs ys n m d1 d2 s1 s2 hs) ⟨e1, e2, ⟨(fun x => nomatch x), h⟩⟩) hu
theorem ne_tuples {A : Around} {E : Value → Shared → Prop} {s : Shared} {p q : Addr} {xs ys : Array Value} {e : Nat → Bool} {Q : Value → Shared → Prop} (hp : s.heap.IsTuple p xs) (hq : s.heap.IsTuple q ys) (hu : A.units < cLine)
    (hj : ∀ j (a : j < xs.size) (b : j < ys.size), EqIn P w A.in1 s xs[j] ys[j] (e j)) (h : Q (.bool (!((List.range (min xs.size ys.size)).all e && xs.size == ys.size))) s) : wpAny (model P w) A (compareOp .NotEq (.ref p) (.ref q)) Q E s := by
  have ⟨⟨c1, d1, t1, s1⟩, e1, g1, n, f1⟩ := hp
  have ⟨⟨c2, d2, t2, s2⟩, e2, g2, m, f2⟩ := hq
  dsimp only at g1 f1 g2 f2
  subst g1 f1 g2 f2
  have body : MeetsIn P w (Builtin.«tuple.__ne__» ⟨[.ref p, .ref q], []⟩) (fun A R s => s.heap.get? p = some (TO d1 xs n s1) ∧ s.heap.get? q = some (TO d2 ys m s2) ∧
      (∀ j (a : j < xs.size) (b : j < ys.size), EqIn P w A.in1 s xs[j] ys[j] (e j)) ∧ R (.ok (.ret (.bool (!((List.range (min xs.size ys.size)).all e && xs.size == ys.size))))) s) := .of_wp fun A R s h => by
    obtain ⟨hh, g, d, tk, os⟩ := s
    obtain ⟨e1, e2, hj, hR⟩ := h
    have f2 := AutoSeq1.sub_tuple_tuple
    have lz : (xs.toList.zip ys.toList).length = min xs.size ys.size := by simp
    wp_walk using wpAny_loadPart' e1, wpAny_loadPart' e2, wpAny_forIn_list _ (fun left acc s' => acc.1 = none ∧ s' = ⟨hh, g, d, tk, os⟩ ∧ ∃ i, left = (xs.toList.zip ys.toList).drop i ∧
      R (.ok (.ret (.bool (!(((List.range (min xs.size ys.size)).drop i).all e && xs.size == ys.size))))) ⟨hh, g, d, tk, os⟩) _
    case turn =>
      rintro ⟨y, x⟩ left acc s' ⟨ha, rfl, i, hz, hR⟩
      have hi : i < min xs.size ys.size := by
        rw [← lz]
        refine Nat.lt_of_not_le fun z => ?_
        rw [List.drop_of_length_le z] at hz
        cases hz
      have a : i < xs.size := by omega
      have b : i < ys.size := by omega
      rw [List.drop_eq_getElem_cons (lz ▸ hi)] at hz
      obtain ⟨hp, hl⟩ := List.cons.inj hz
      obtain rfl : y = xs[i] := by simpa using congrArg Prod.fst hp
      obtain rfl : x = ys[i] := by simpa using congrArg Prod.snd hp
      rw [show (List.range (min xs.size ys.size)).drop i = i :: (List.range (min xs.size ys.size)).drop (i + 1) by simp [List.drop_eq_getElem_cons, hi], List.all_cons] at hR
      refine wpAny_bind (hj i a b _ _ ?_)
      cases he : e i <;> rw [he] at hR
      · wp_walk
        exact ⟨_, rfl, by simpa using hR⟩
      · wp_walk
        exact ⟨rfl, rfl, i + 1, hl, by simpa using hR⟩
    case fin =>
      rintro ⟨b1, b2⟩ s' ⟨ha, rfl, i, hz, hR⟩
      dsimp only at ha
      subst ha
      have hi : min xs.size ys.size ≤ i := by
        rw [← lz]
        refine Nat.le_of_not_lt fun z => ?_
        rw [List.drop_eq_getElem_cons z] at hz
        cases hz
      rw [List.drop_of_length_le (by simpa using hi)] at hR
      wp_walk
      exact ⟨_, rfl, by simpa [Builtin.Tuple.tupleCompareSizes, bne] using hR⟩
    case h => exact ⟨rfl, rfl, 0, rfl, by simpa using hR⟩
  exact wpAny_richCompare_same_room (T := "tuple") (op := .NotEq) ⟨_, e1, rfl⟩ ⟨_, e2, rfl⟩ F.slot_tuple_ne
    (call_meetsIn F.slot_tuple_ne ⟨_, e1, rfl⟩ F.entry_tuple_ne (F.args_tuple_ne_2 _ _) body ⟨e1, e2, hj, ⟨(fun x => nomatch x), h⟩⟩) hu
theorem ne_dicts {A : Around} {E : Value → Shared → Prop} {s : Shared} {p q : Addr} {ks ls : List (Key × Value)} {r : Bool} {Q : Value → Shared → Prop} (hp : (p == sysModules) = false) (hq : (q == sysModules) = false)
    (dp : s.heap.DictOf (L2.mixKind P w) p ks) (dq : s.heap.DictOf (L2.mixKind P w) q ls) (hu : A.units < cLine) (hits : KeqHitsIn P w A.in1 s ls ks r) (h : Q (.bool (!(ks.length == ls.length && r))) s) :
    wpAny (model P w) A (compareOp .NotEq (.ref p) (.ref q)) Q E s := by
  refine wpAny_richCompare_same_room (op := .NotEq) dp.typeIs dq.typeIs F.slot_dict_ne (wpAny_call_entry F.slot_dict_ne dp.typeIs F.entry_dict_ne ?_ (F.args_dict_ne_2 _ _)) hu
  show wpAny _ _ (Builtin.Dict.dictSlotArgs "__ne__" ⟨[.ref p, .ref q], []⟩ >>= _) _ _ s
  refine wpAny_bind ?_
  unfold Builtin.Dict.dictSlotArgs
  refine wpAny_bind (wpAny_notOrdered_dict dp.typeIs ?_)
  show wpAny _ _ (pure (Value.ref p, Value.ref q)) _ _ s
  refine wpAny_pure (wpAny_bind (wpAny_isInstance (T := "dict") dq.typeIs F.sub_dict_dict ?_))
  simp only [Bool.not_true, Bool.false_eq_true, if_false]
  refine wpAny_bind (wpAny_pure (wpAny_bind (wpAny_pure (wpAny_bind (keq_samePairsIn hp hq dp dq (fun _ => hits) (wpAny_pure ⟨_, rfl, (fun x => nomatch x), ?_⟩))))))
  simpa using h
end
end PD
/-! DCmp: comparisons -/
namespace PD
open PySem L2

def pyCop : Cop → CmpOp
  | .eq => .Eq
  | .ne => .NotEq
  | .lt => .Lt
  | .le => .LtE
  | .gt => .Gt
  | .ge => .GtE
  | .is => .Is
  | .isnot => .IsNot
  | .inn => .In
  | .notin => .NotIn

section
variable {X : Cx} {CT : CTab} {pins : List (Addr × Obj)} {σ : L2.St} {H : Hp} {s : Shared}
/-- the value of a scalar -/
def scV : D → V
  | .bl b => .bl b
  | .int i => .int i
  | .str s => .str (toStr s)
  | _ => .non
theorem sc_rep {α : List Addr} {G : Addr → Prop} {d : D} {o : Own} {v : V} {os : List Addr} (h : scalarD d = true) (r : Rep X.K CT α G H d o v os) : v = scV d := by
  cases d <;> first
    | (unfold Rep at r; exact r.1)
    | cases h
theorem topOk_kinds {d e : D} (h : topOk d e = true) : (scalarD d = true ∧ scalarD e = true ∧ scal (scV d) (scV e) = true) ∨ (∃ xs ys, d = .lst xs ∧ e = .lst ys) ∨ (∃ xs ys, d = .tup xs ∧ e = .tup ys) ∨ ∃ ks vs ks' vs', d = .dic ks vs ∧ e = .dic ks' vs' := by
  cases d <;> cases e <;> first
    | exact .inl ⟨rfl, rfl, rfl⟩
    | exact .inr (.inl ⟨_, _, rfl, rfl⟩)
    | exact .inr (.inr (.inl ⟨_, _, rfl, rfl⟩))
    | exact .inr (.inr (.inr ⟨_, _, _, _, rfl, rfl⟩))
    | cases h
theorem deq_scal {d e : D} (hd : scalarD d = true) (he : scalarD e = true) (hs : scal (scV d) (scV e) = true) : deq d e = some (decide (scV d = scV e)) := by
  cases d <;> cases e <;> first
    | (simp [scalarD] at hd; done)
    | (simp [scalarD] at he; done)
    | (simp [scV, scal] at hs; done)
    | (simp [deq, deqN, scV, toStr_inj]; done)
    | (simp [deq, deqN, scV, toStr_inj]; rw [Bool.eq_iff_iff]; simp; done)
variable {P : Program} {w : World}
theorem eq_lst (hu : X.A.units + 64 < cLine) (I : Inv X pins σ H s) {α : List Addr} {G : Addr → Prop} {xs ys : List D} {c : Bool} (h : deq (.lst xs) (.lst ys) = some c) {vx vy : V} {u w : Value} (hx : Rep X.K CT α G H (.lst xs) .no vx []) (hy : Rep X.K CT α G H (.lst ys) .no vy []) (rx : RelV vx u) (ry : RelV vy w)
    {Q : Value → Shared → Prop} {E : Value → Shared → Prop} : (Q (.bool c) s → wpAny (model X.prog X.w) X.A (compareOp .Eq u w) Q E s) ∧ (Q (.bool (!c)) s → wpAny (model X.prog X.w) X.A (compareOp .NotEq u w) Q E s) := by
  obtain ⟨a, vs, rfl, ha, hx, _⟩ := lst_of hx
  obtain ⟨b, ws, rfl, hb, hy, _⟩ := lst_of hy
  obtain ⟨us, ru, pu⟩ := isList_of I ha
  obtain ⟨zs, rz, pz⟩ := isList_of I hb
  obtain rfl : u = .ref a := rx
  obtain rfl : w = .ref b := ry
  have l1 : us.length = xs.length := by rw [← ru.length, hx.len]
  have l2 : zs.length = ys.length := by rw [← rz.length, hy.len]
  unfold deq at h
  simp only [deqN] at h
  split at h
  · rename_i hl
    obtain ⟨e, rfl, hj⟩ := zw_items h hx hy ru rz
    have hl' : us.length = zs.length := by omega
    have hj' : ∀ j (h1 : j < us.toArray.size) (h2 : j < zs.toArray.size), PySem.SeqAt.EqIn X.prog X.w X.A.in1 s us.toArray[j] zs.toArray[j] (e j) := fun j h1 h2 => by
      obtain ⟨d, d', v, v', q1, q2, q3, q4, q5⟩ := hj j (by simpa using h1) (by simpa using h2)
      exact (eqT cloTree I 29 d d' _ q1 q2 q3 (by simpa using q4) (by simpa using q5)).at X.A.in1 (by show X.A.units + 1 + 30 < cLine; omega)
    rw [show min us.length zs.length = us.toArray.size by simp [hl']]
    exact ⟨fun q => PySem.SeqAt.rcIn_lists pu pz (by simpa using hl') (by omega) hj' q, fun q => ne_lists pu pz (by simpa using hl') (by omega) hj' q⟩
  · rename_i hl
    cases h
    exact ⟨fun q => SeqAt.RcAt.lists_lengths pu pz (by simp; omega) (by omega) _ _ _ _ q, fun q => ne_listsLen pu pz (by simp; omega) (by omega) q⟩
theorem eq_tup (hu : X.A.units + 64 < cLine) (I : Inv X pins σ H s) {α : List Addr} {G : Addr → Prop} {xs ys : List D} {c : Bool} (h : deq (.tup xs) (.tup ys) = some c) {vx vy : V} {u w : Value} (hx : Rep X.K CT α G H (.tup xs) .no vx []) (hy : Rep X.K CT α G H (.tup ys) .no vy []) (rx : RelV vx u) (ry : RelV vy w)
    {Q : Value → Shared → Prop} {E : Value → Shared → Prop} : (Q (.bool c) s → wpAny (model X.prog X.w) X.A (compareOp .Eq u w) Q E s) ∧ (Q (.bool (!c)) s → wpAny (model X.prog X.w) X.A (compareOp .NotEq u w) Q E s) := by
  obtain ⟨a, vs, rfl, ha, hx⟩ := tup_of hx
  obtain ⟨b, ws, rfl, hb, hy⟩ := tup_of hy
  obtain ⟨us, ru, pu⟩ := isTup_of I ha
  obtain ⟨zs, rz, pz⟩ := isTup_of I hb
  obtain rfl : u = .ref a := rx
  obtain rfl : w = .ref b := ry
  have l1 : us.length = xs.length := by rw [← ru.length, hx.len]
  have l2 : zs.length = ys.length := by rw [← rz.length, hy.len]
  have key : ∀ b', allO (zw (deqN true 29) xs ys) = some b' → (Q (.bool (b' && us.length == zs.length)) s → wpAny (model X.prog X.w) X.A (compareOp .Eq (.ref a) (.ref b)) Q E s) ∧ (Q (.bool (!(b' && us.length == zs.length))) s → wpAny (model X.prog X.w) X.A (compareOp .NotEq (.ref a) (.ref b)) Q E s) := by
    intro b' hb'
    obtain ⟨e, rfl, hj⟩ := zw_items hb' hx hy ru rz
    have hj' : ∀ j (h1 : j < us.toArray.size) (h2 : j < zs.toArray.size), PySem.SeqAt.EqIn X.prog X.w X.A.in1 s us.toArray[j] zs.toArray[j] (e j) := fun j h1 h2 => by
      obtain ⟨d, d', v, v', q1, q2, q3, q4, q5⟩ := hj j (by simpa using h1) (by simpa using h2)
      exact (eqT cloTree I 29 d d' _ q1 q2 q3 (by simpa using q4) (by simpa using q5)).at X.A.in1 (by show X.A.units + 1 + 30 < cLine; omega)
    exact ⟨fun q => PySem.SeqAt.rcIn_tuples pu pz (by omega) hj' (by simpa using q), fun q => ne_tuples pu pz (by omega) hj' (by simpa using q)⟩
  unfold deq at h
  simp only [deqN] at h
  split at h
  · rename_i hl
    have z := key c h
    rw [show (us.length == zs.length) = true by simp; omega, Bool.and_true] at z
    exact z
  · rename_i hl
    obtain ⟨c2, hc2, rfl⟩ := Option.map_eq_some_iff.mp h
    have z := key c2 hc2
    rw [show (us.length == zs.length) = false by simp; omega, Bool.and_false] at z
    exact z
theorem eq_dic (hu : X.A.units + 64 < cLine) (I : Inv X pins σ H s) {α : List Addr} {G : Addr → Prop} {ks ds ks' ds' : List D} {c : Bool} (h : deq (.dic ks ds) (.dic ks' ds') = some c) {vx vy : V} {u w : Value} (hx : Rep X.K CT α G H (.dic ks ds) .no vx []) (hy : Rep X.K CT α G H (.dic ks' ds') .no vy []) (rx : RelV vx u) (ry : RelV vy w)
    {Q : Value → Shared → Prop} {E : Value → Shared → Prop} : (Q (.bool c) s → wpAny (model X.prog X.w) X.A (compareOp .Eq u w) Q E s) ∧ (Q (.bool (!c)) s → wpAny (model X.prog X.w) X.A (compareOp .NotEq u w) Q E s) := by
  obtain ⟨a, kvs, rfl, ha, hk, hx2, _⟩ := dic_of hx
  obtain ⟨b, kvs', rfl, hc, hk', hy2, _⟩ := dic_of hy
  obtain ⟨sa, vs, r, dd, nd⟩ := dict_of I ha
  obtain ⟨sc, vs', r', dd', _⟩ := dict_of I hc
  obtain rfl : u = .ref a := rx
  obtain rfl : w = .ref b := ry
  unfold deq at h
  simp only [deqN] at h
  split at h
  case isFalse => cases h
  obtain ⟨c2, hc2, rfl⟩ := Option.map_eq_some_iff.mp h
  obtain ⟨e, rfl, hj⟩ := zwD_items hk' hy2 r' hc2 hk hx2 r nd
  have e1 : vs.length = ks.length := by
    have z := keysR_len hk
    rw [List.length_map] at z
    rw [← z]
    exact (Paired.length r).symm
  have e2 : vs'.length = ks'.length := by
    have z := keysR_len hk'
    rw [List.length_map] at z
    rw [← z]
    exact (Paired.length r').symm
  have hits : PySem.W.KeqHitsIn X.prog X.w X.A.in1 s vs' vs (vs.all fun p => (valueAt vs' p.1).isSome && e p.1) := .of vs fun k v y hm hy => by
    obtain ⟨d, d', x, x', q1, q2, q3, q4, q5⟩ := hj k v y hm hy
    exact (eqT cloTree I 29 d d' _ q1 q2 q3 q4 q5).at X.A.in1 (by show X.A.units + 1 + 30 < cLine; omega)
  rw [← e1, ← e2]
  exact ⟨fun q => PySem.W.keq_eqIn sa sc dd dd' (by omega) (fun _ => hits) q, fun q => ne_dicts sa sc dd dd' (by omega) hits q⟩
end

section
variable {X : Cx} {CT : CTab}
theorem anyO_map {β : Type} {f : β → Option Bool} : ∀ {l : List β} {b : Bool}, anyO (l.map f) = some b → ∃ e : β → Bool, (∀ x ∈ l, f x = some (e x)) ∧ b = l.any e
  | [], b, h => by
    simp [anyO] at h
    exact ⟨fun _ => true, by simp, by simp [h]⟩
  | x :: l, b, h => by
    rw [List.map_cons] at h
    unfold anyO at h
    cases hx : f x with
    | none => simp [hx] at h
    | some a =>
      cases hl : anyO (l.map f) with
      | none => simp [hx, hl] at h
      | some c =>
        obtain ⟨e, he, rfl⟩ := anyO_map hl
        simp [hx, hl] at h
        refine ⟨fun y => (f y).getD false, fun y hy => ?_, ?_⟩
        · rcases List.mem_cons.mp hy with z | z
          · subst z
            show f y = some ((f y).getD false)
            rw [hx]; rfl
          · show f y = some ((f y).getD false)
            rw [he y z]; rfl
        · rw [List.any_cons, ← h]
          show (a || l.any e) = ((f x).getD false || _)
          rw [hx]
          show (a || l.any e) = (a || _)
          congr 1
          exact any_cong fun y hy => by rw [he y hy]; rfl
where
  any_cong {β : Type} {f g : β → Bool} : ∀ {l : List β}, (∀ x ∈ l, f x = g x) → l.any f = l.any g
    | [], _ => rfl
    | x :: l, h => by
      rw [List.any_cons, List.any_cons, h x List.mem_cons_self, any_cong fun y hy => h y (List.mem_cons_of_mem _ hy)]
theorem anyE {us : List Value} {ys : List D} (hl : us.length = ys.length) {f : D → Bool} {P : Value → Bool → Prop} (h : ∀ (j : Nat) (u : Value) (y : D), us[j]? = some u → ys[j]? = some y → P u (f y)) :
    ∃ e : Value → Bool, (∀ u ∈ us, P u (e u)) ∧ us.any e = ys.any f := by
  classical
  refine ⟨fun u => decide (∃ (j : Nat) (y : D), us[j]? = some u ∧ ys[j]? = some y ∧ f y = true), fun u hu => ?_, ?_⟩
  · by_cases c : ∃ (j : Nat) (y : D), us[j]? = some u ∧ ys[j]? = some y ∧ f y = true
    · rw [show (fun u => decide (∃ (j : Nat) (y : D), us[j]? = some u ∧ ys[j]? = some y ∧ f y = true)) u = true from decide_eq_true c]
      obtain ⟨j, y, h1, h2, h3⟩ := c
      rw [← h3]
      exact h j u y h1 h2
    · rw [show (fun u => decide (∃ (j : Nat) (y : D), us[j]? = some u ∧ ys[j]? = some y ∧ f y = true)) u = false from decide_eq_false c]
      obtain ⟨j, hj⟩ := List.getElem?_of_mem hu
      have lj := (List.getElem?_eq_some_iff.mp hj).1
      have hy : ys[j]? = some (ys[j]'(by omega)) := List.getElem?_eq_getElem (by omega)
      have z := h j u _ hj hy
      cases q : f (ys[j]'(by omega)) with
      | false => rw [q] at z; exact z
      | true => exact absurd ⟨j, _, hj, hy, q⟩ c
  · rw [Bool.eq_iff_iff, List.any_eq_true, List.any_eq_true]
    constructor
    · rintro ⟨u, hu, he⟩
      obtain ⟨j, y, h1, h2, h3⟩ := of_decide_eq_true he
      exact ⟨y, List.mem_of_getElem? h2, h3⟩
    · rintro ⟨y, hy, he⟩
      obtain ⟨j, hj⟩ := List.getElem?_of_mem hy
      have lj := (List.getElem?_eq_some_iff.mp hj).1
      have hu : us[j]? = some (us[j]'(by omega)) := List.getElem?_eq_getElem (by omega)
      exact ⟨_, List.mem_of_getElem? hu, decide_eq_true ⟨j, y, hu, hj, he⟩⟩
theorem RepL.ix {K : PySem.W.Frag} {α : List Addr} {G : Addr → Prop} {H : Hp} {o : Own} : ∀ {ds : List D} {vs : List V} {os : List Addr} {j : Nat} {d : D}, RepL K CT α G H ds o vs os → ds[j]? = some d → ∃ v os', vs[j]? = some v ∧ os'.Sublist os ∧ Rep K CT α G H d o v os'
  | [], _, _, _, _, _, h => by simp at h
  | d' :: ds, vs, os, j, d, h, hj => by
    unfold RepL at h
    obtain ⟨v, r, os1, os2, rfl, rfl, h3, h4⟩ := h
    cases j with
    | zero =>
      simp at hj
      subst hj
      exact ⟨v, os1, rfl, List.sublist_append_left _ _, h3⟩
    | succ j =>
      obtain ⟨w, os', k1, k2, k3⟩ := RepL.ix h4 (by simpa using hj)
      exact ⟨w, os', by simpa using k1, k2.trans (List.sublist_append_right _ _), k3⟩
theorem Vals.ix : ∀ {vs : List V} {us : List Value} {j : Nat} {v : V}, Vals vs us → vs[j]? = some v → ∃ u, us[j]? = some u ∧ RelV v u
  | _, _, _, _, .nil, h => by simp at h
  | _, _, j, v, .cons r rs, h => by
    cases j with
    | zero =>
      simp at h
      subst h
      exact ⟨_, rfl, r⟩
    | succ j =>
      obtain ⟨u, h1, h2⟩ := Vals.ix rs (by simpa using h)
      exact ⟨u, by simpa using h1, h2⟩
theorem in_items {pins : List (Addr × Obj)} {σ : L2.St} {H : Hp} {s : Shared} (hu : X.A.units + 64 < cLine) (I : Inv X pins σ H s) {α : List Addr} {G : Addr → Prop} {dx : D} {ys : List D} {b : Bool}
    (h : anyO (ys.map (deqF · dx)) = some b) {vx : V} {u : Value} {vs : List V} {us : List Value} (hx : Rep X.K CT α G H dx .no vx []) (hy : RepL X.K CT α G H ys .no vs []) (rx : RelV vx u) (ry : Vals vs us) :
    ∃ e : Value → Bool, (∀ y ∈ us, SeqAt.EqAt X.A.in1 s y u (e y)) ∧ us.any e = b := by
  obtain ⟨f, hf, rfl⟩ := anyO_map h
  have l1 := hy.len
  have l2 : vs.length = us.length := Paired.length ry
  obtain ⟨e, h1, h2⟩ := anyE (us := us) (ys := ys) (f := f) (P := fun y b => SeqAt.EqAt X.A.in1 s y u b) (by omega) fun j w y hw hj => by
    obtain ⟨v, os', k1, k2, k3⟩ := RepL.ix hy hj
    obtain rfl := List.sublist_nil.mp k2
    obtain ⟨w', q1, q2⟩ := Vals.ix ry k1
    rw [hw] at q1
    cases q1
    have z := hf y (List.mem_of_getElem? hj)
    exact eqT cloAt I 30 y dx _ z k3 hx q2 rx X.A.in1 (by show X.A.units + 1 + 31 < cLine; omega)
  exact ⟨e, h1, h2⟩
theorem any_toArray {us : List Value} {e : Value → Bool} : us.toArray.any e = us.any e := by simp
theorem isSome_look {k : D} : ∀ {ks ds : List D}, ks.length = ds.length → (lookD k ks ds).isSome = ks.any (keq · k)
  | [], [], _ => rfl
  | k' :: ks, d :: ds, h => by
    unfold lookD
    rw [List.any_cons]
    split
    · rename_i q
      rw [q]; rfl
    · rename_i q
      rw [isSome_look (by simpa using h)]
      simp [q]
/-- is the key in the dict -/
theorem in_dic {pins : List (Addr × Obj)} {σ : L2.St} {H : Hp} {s : Shared} (hu : X.A.units + 64 < cLine) (I : Inv X pins σ H s) {α : List Addr} {G : Addr → Prop} {k : D} {kk : Key} (hk : keyR k kk) {vx vy : V} {u w : Value} {ks ds : List D}
    (hx : vx = kV kk) (hy : Rep X.K CT α G H (.dic ks ds) .no vy []) (rx : RelV vx u) (ry : RelV vy w) {Q : Value → Shared → Prop} {E : Value → Shared → Prop} :
    ((∀ s', Inv X pins σ H s' → Q (.bool (ks.any (keq · k))) s') → wpAny (model X.prog X.w) X.A (compareOp .In u w) Q E s) ∧ ((∀ s', Inv X pins σ H s' → Q (.bool (!ks.any (keq · k))) s') → wpAny (model X.prog X.w) X.A (compareOp .NotIn u w) Q E s) := by
  obtain ⟨a, kvs, rfl, ha, hks, hds, _⟩ := dic_of hy
  obtain rfl : w = .ref a := ry
  subst hx
  have l := look_rep hk hks hds
  have e1 : ks.length = ds.length := by
    have z1 := keysR_len hks
    have z2 := hds.len
    simp at z1 z2
    omega
  have e : (valV kvs kk).isSome = ks.any (keq · k) := by
    rw [← isSome_look e1]
    cases q : lookD k ks ds with
    | none => rw [l.2 q]; rfl
    | some d =>
      obtain ⟨v, os', h1, _⟩ := l.1 d q
      rw [h1]; rfl
  rw [← e]
  exact ⟨fun q => d_in (by omega) I (.inl ⟨kvs, kk, ha, rfl, rfl⟩) rx q, fun q => d_notIn (by omega) I (.inl ⟨kvs, kk, ha, rfl, rfl⟩) rx q⟩
theorem fin_bool {X : Cx} {pins : List (Addr × Obj)} {σ : L2.St} {H : Hp} {s : Shared} {Q : VK} {b : Bool} (I : Inv X pins σ H s) (q : Q (.bl b) H) : EP X pins σ Q (.bool b) s := ⟨.bl b, H, I, rfl, q⟩
theorem cmp_top (hu : X.A.units + 64 < cLine) {dx dy : D} {c : Bool} (ht : topOk dx dy = true) (hd : deq dx dy = some c) {α : List Addr} {G : Addr → Prop} {H : Hp} {vx vy : V} (hx : Rep X.K CT α G H dx .no vx []) (hy : Rep X.K CT α G H dy .no vy []) {Q : VK} :
    (Q (.bl c) H → wOp X (compareOp .Eq) vx vy H Q) ∧ (Q (.bl (!c)) H → wOp X (compareOp .NotEq) vx vy H Q) := by
  rcases topOk_kinds ht with ⟨h1, h2, h3⟩ | ⟨xs, ys, rfl, rfl⟩ | ⟨xs, ys, rfl, rfl⟩ | ⟨ks, vs, ks', vs', rfl, rfl⟩
  · rw [deq_scal h1 h2 h3] at hd
    cases hd
    rw [sc_rep h1 hx, sc_rep h2 hy]
    exact ⟨fun q => wOp.of op_eq ⟨h3, q⟩, fun q => wOp.of op_ne ⟨h3, q⟩⟩
  · exact ⟨fun q pins s σ u w I rx ry => (eq_lst hu I hd hx hy rx ry).1 (fin_bool I q), fun q pins s σ u w I rx ry => (eq_lst hu I hd hx hy rx ry).2 (fin_bool I q)⟩
  · exact ⟨fun q pins s σ u w I rx ry => (eq_tup hu I hd hx hy rx ry).1 (fin_bool I q), fun q pins s σ u w I rx ry => (eq_tup hu I hd hx hy rx ry).2 (fin_bool I q)⟩
  · exact ⟨fun q pins s σ u w I rx ry => (eq_dic hu I hd hx hy rx ry).1 (fin_bool I q), fun q pins s σ u w I rx ry => (eq_dic hu I hd hx hy rx ry).2 (fin_bool I q)⟩
theorem cmp_inL (hu : X.A.units + 64 < cLine) {dx dy : D} {ys : List D} {c : Bool} (hk : dy = .lst ys ∨ dy = .tup ys) (hd : anyO (ys.map (deqF · dx)) = some c) {α : List Addr} {G : Addr → Prop} {H : Hp} {vx vy : V} (hx : Rep X.K CT α G H dx .no vx []) (hy : Rep X.K CT α G H dy .no vy []) {Q : VK} :
    (Q (.bl c) H → wOp X (compareOp .In) vx vy H Q) ∧ (Q (.bl (!c)) H → wOp X (compareOp .NotIn) vx vy H Q) := by
  rcases hk with rfl | rfl
  · obtain ⟨a, vs, rfl, ha, hy, _⟩ := lst_of hy
    constructor <;> intro q pins s σ u w I rx ry
    all_goals
      obtain ⟨us, ru, pu⟩ := isList_of I ha
      obtain rfl : w = .ref a := ry
      obtain ⟨e, h1, rfl⟩ := in_items hu I hd hx hy rx ru
    · exact SeqAt.in_listAt e pu (fun y hy => h1 y (by simpa using hy)) (by rw [any_toArray]; exact fin_bool I q)
    · exact SeqAt.notIn_listAt e pu (fun y hy => h1 y (by simpa using hy)) (by rw [any_toArray]; exact fin_bool I q)
  · obtain ⟨a, vs, rfl, ha, hy⟩ := tup_of hy
    constructor <;> intro q pins s σ u w I rx ry
    all_goals
      obtain ⟨us, ru, pu⟩ := isTup_of I ha
      obtain rfl : w = .ref a := ry
      obtain ⟨e, h1, rfl⟩ := in_items hu I hd hx hy rx ru
    · exact SeqAt.in_tupleAt e pu (fun y hy => h1 y (by simpa using hy)) (by rw [any_toArray]; exact fin_bool I q)
    · exact SeqAt.notIn_tupleAt e pu (fun y hy => h1 y (by simpa using hy)) (by rw [any_toArray]; exact fin_bool I q)
theorem toStr_list (s : List Nat) : (toStr s).cps.toList = s := by simp [toStr]
def isNonD : D → Bool
  | .non => true
  | _ => false
theorem isNon (d : D) {α : List Addr} {G : Addr → Prop} {H : Hp} {v : V} (h : Rep X.K CT α G H d .no v []) : decide (v = .non) = isNonD d := by
  unfold isNonD
  cases d <;> unfold Rep at h <;> simp at h
  all_goals first
    | (rw [h]; simp; done)
    | (obtain ⟨a, _, rfl⟩ := h; simp; done)
    | (obtain ⟨a, h, _⟩ := h; rw [h]; simp; done)
    | (obtain ⟨a, _, h⟩ := h; rw [h]; simp; done)
    | (obtain ⟨a, rfl, _⟩ := h; simp; done)
    | (subst h; simp; done)
theorem isNonD_not {d : D} (h : d = .non → False) : isNonD d = false := by
  cases d <;> first | rfl | exact absurd rfl h
theorem rep_int {K : PySem.W.Frag} {α : List Addr} {G : Addr → Prop} {H : Hp} {i : Int} {o : Own} {v : V} {os : List Addr} (h : Rep K CT α G H (.int i) o v os) : v = kV (.inl i) := by
  unfold Rep at h
  exact h.1
theorem rep_str {K : PySem.W.Frag} {α : List Addr} {G : Addr → Prop} {H : Hp} {i : List Nat} {o : Own} {v : V} {os : List Addr} (h : Rep K CT α G H (.str i) o v os) : v = kV (.inr (toStr i)) := by
  unfold Rep at h
  exact h.1
theorem cmpOp_ok (hu : X.A.units + 64 < cLine) (op : Cop) (dx dy : D) : OpD X CT (compareOp (pyCop op)) dx dy ((cmpD op dx dy).map fun c => (.all, .bl c)) := by
  intro o d h vx vy α G st H hx hy w g Q k
  obtain ⟨c, hc, e⟩ := Option.map_eq_some_iff.mp h
  cases e
  have fin : Q (.bl c) H := k _ _ _ (.bl w)
  unfold cmpD at hc
  split at hc
  · split at hc
    · rename_i ht
      exact (cmp_top hu ht hc hx hy).1 fin
    · cases hc
  · split at hc
    · rename_i ht
      obtain ⟨c', h1, rfl⟩ := Option.map_eq_some_iff.mp hc
      exact (cmp_top hu ht h1 hx hy).2 fin
    · cases hc
  · cases hc
    unfold Rep at hx hy
    rw [hx.1, hy.1]
    exact wOp.of op_lt ⟨_, _, rfl, rfl, fin⟩
  · cases hc
    unfold Rep at hx hy
    rw [hx.1, hy.1]
    exact wOp.of op_le ⟨_, _, rfl, rfl, fin⟩
  · cases hc
    unfold Rep at hx hy
    rw [hx.1, hy.1]
    exact wOp.of op_gt ⟨_, _, rfl, rfl, fin⟩
  · cases hc
    unfold Rep at hx hy
    rw [hx.1, hy.1]
    exact wOp.of op_ge ⟨_, _, rfl, rfl, fin⟩
  · cases hc
    unfold Rep at hx hy
    rw [hx.1, hy.1]
    exact wOp.of op_lt_str ⟨_, _, rfl, rfl, by rw [toStr_list, toStr_list]; exact fin⟩
  · cases hc
    have z := isNon _ hx
    unfold Rep at hy
    rw [hy.1]
    exact wOp.of op_isN ⟨rfl, by rw [z]; exact fin⟩
  · cases hc
    have z := isNon _ hx
    unfold Rep at hy
    rw [hy.1]
    refine wOp.of op_isN ⟨rfl, ?_⟩
    rw [z, isNonD_not ‹_›]
    exact fin
  · cases hc
    have z := isNon _ hx
    unfold Rep at hy
    rw [hy.1]
    exact wOp.of op_notN ⟨rfl, by rw [z]; exact fin⟩
  · cases hc
    have z := isNon _ hx
    unfold Rep at hy
    rw [hy.1]
    refine wOp.of op_notN ⟨rfl, ?_⟩
    rw [z, isNonD_not ‹_›]
    exact fin
  · cases hc
    unfold Rep at hx hy
    rw [hx.1, hy.1]
    exact wOp.of op_is_bl ⟨_, _, rfl, rfl, by rw [show decide (_ = _) = (_ == _) from (Bool.beq_eq_decide_eq _ _).symm]; exact fin⟩
  · cases hc
    unfold Rep at hx hy
    rw [hx.1, hy.1]
    exact wOp.of op_isnot_bl ⟨_, _, rfl, rfl, by rw [show decide (_ = _) = (_ == _) from (Bool.beq_eq_decide_eq _ _).symm]; exact fin⟩
  · exact (cmp_inL hu (.inl rfl) hc hx hy).1 fin
  · obtain ⟨c', h1, rfl⟩ := Option.map_eq_some_iff.mp hc
    exact (cmp_inL hu (.inl rfl) h1 hx hy).2 fin
  · exact (cmp_inL hu (.inr rfl) hc hx hy).1 fin
  · obtain ⟨c', h1, rfl⟩ := Option.map_eq_some_iff.mp hc
    exact (cmp_inL hu (.inr rfl) h1 hx hy).2 fin
  · cases hc
    unfold Rep at hx hy
    rw [hx.1, hy.1]
    exact wOp.of op_in_sign ⟨_, _, rfl, rfl, by rw [toStr_list]; simpa [List.elem_eq_contains] using fin⟩
  · cases hc
    unfold Rep at hx hy
    rw [hx.1, hy.1]
    exact wOp.of op_notIn_sign ⟨_, _, rfl, rfl, by rw [toStr_list]; simpa [List.elem_eq_contains] using fin⟩
  · cases hc
    have z := rep_int hx
    exact fun pins s σ u v I rx ry => (in_dic (k := .int _) (kk := .inl _) hu I rfl z hy rx ry).1 fun s' I' => fin_bool I' fin
  · cases hc
    have z := rep_int hx
    exact fun pins s σ u v I rx ry => (in_dic (k := .int _) (kk := .inl _) hu I rfl z hy rx ry).2 fun s' I' => fin_bool I' fin
  · cases hc
    have z := rep_str hx
    exact fun pins s σ u v I rx ry => (in_dic (k := .str _) (kk := .inr (toStr _)) hu I rfl z hy rx ry).1 fun s' I' => fin_bool I' fin
  · cases hc
    have z := rep_str hx
    exact fun pins s σ u v I rx ry => (in_dic (k := .str _) (kk := .inr (toStr _)) hu I rfl z hy rx ry).2 fun s' I' => fin_bool I' fin
  · cases hc
end
end PD
/-! DExp: expressions -/
namespace PD
open PySem PySem.Spec PyProof.Rows L2

/-- what a program of PD stands for -/
structure Tab where
  P : Pr
  CT : CTab
  /-- the names of the globals, of the defs (a class's for an __init__), of the methods, of the classes -/
  gname : Nat → Str
  fname : Nat → Str
  mname : Nat → Str
  cname : Nat → Str
  /-- within an __init__: its own instance -/
  self : Option V := none

section
variable (K : PySem.W.Frag) (CT : CTab) (E : XK) (α : List Addr) (H : Hp) (G : Addr → Prop)
/-- what a call promises -/
def SatC (Q : VK) : R VD → Prop
  | .ok v st' => ∀ x H' α' os, Post K CT α H G st' v.1 v.2 x H' α' os → Q x H'
  | .exc c ds st' => ∀ H' α' cls dd, Ext α H α' H' → WS α' st' H' → ExcRep K CT α' G H' c ds cls dd → E cls dd H'
  | .no => False
end
/-- the promise of the def f, n calls deep -/
def SpF (T : Tab) (K : PySem.W.Frag) (n f : Nat) : Sp := fun vs H Q E =>
  ∃ ds α G st, RepL K T.CT α G H ds .no vs [] ∧ WS α st H ∧ GF G H ∧ SatC K T.CT E α H G Q (run T.P n f ds st)
/-- .. of an __init__ (its own instance, just made, ahead) -/
def SpI (T : Tab) (K : PySem.W.Frag) (n f c : Nat) : Sp := fun vs H Q E =>
  ∃ x dx H0 ws ds α G st, vs = V.ref x :: ws ∧ H0 x = none ∧ H0 dx = none ∧ dx ≠ x ∧ H = upd (upd H0 dx (.own x)) x (.ins (T.CT c).C dx []) ∧ RepL K T.CT α G H0 ds .no ws [] ∧ WS α st H0 ∧ GF G H0 ∧
    SatC K T.CT E α H0 G (fun v H' => v = .ref x → Q .non H') (run T.P n f ds st)

/-- a promise of a def: nothing is being shown while it runs -/
def FnG (P : Program) (w : World) (K : PySem.W.Frag) (mg : Str → Option Value) (base : Heap) (k : Nat) (f : Addr) (sp : Sp) : Prop :=
  ∀ (A : Around) (outer : List PySem.Env) (s : Shared) (H : Hp) (us : List Value) (vs : List V) (Q : VK) (E : XK), Room k A → A.guards = some [] → Env0 P w K mg base A outer s H → Vals vs us → sp vs H Q E →
    codeAny (model P w) A (.call (.ref f) ⟨us, []⟩) (CR (L2.CX P w) outer P w H s Q E) s

/-- a tree as the model's data -/
def pyD : D → Option PyData
  | .non => some .none
  | .bl b => some (.bool b)
  | .int i => some (.int i)
  | .str s => some (.str (toStr s))
  | .lst xs => (pyL xs).map .list
  | .tup xs => (pyL xs).map .tuple
  | _ => none
where
  pyL : List D → Option (List PyData)
  | [] => some []
  | x :: xs => (pyD x).bind fun p => (pyL xs).map (p :: ·)
/-- what repr gives, where it is told -/
def rpD (d : D) : Option (List Nat) := match pyD d with
  | some p => if p.showable = true ∧ p.shown.length ≤ maxLen ∧ p.depth ≤ 40 then some p.shown.cps.toList else none
  | none => none

structure Facts (T : Tab) (n : Nat) (P : Program) (w : World) (K : PySem.W.Frag) (mg : Str → Option Value) (base : Heap) : Prop where
  blt : ∀ x : Str, x ∈ (["len", "int", "bool", "str", "repr", "sum", "min", "max", "all", "any", "list", "tuple", "dict", "sorted", "range", "enumerate", "zip", "reversed", "isinstance", "set"] : List Str) → mg x = none
  rp : T.P.rp = rpD
  len : ∀ c f, T.P.lenF c = some f → T.P.kc c = true ∧ ∃ a, PySem.W.findIn K (.ref (T.CT c).C) "__len__" = some (some (.ref a)) ∧ PySem.W.isFn K (.ref a) = true ∧ FnG P w K mg base (4 * n) a (SpF T K n f)
  gl : ∀ k d, T.P.gl[k]? = some d → ∃ u v, mg (T.gname k) = some u ∧ RelV v u ∧ Rep K T.CT [] (fun _ => False) (fun _ => none) d .no v []
  fn : ∀ f F, T.P.fns[f]? = some F → F.ini = none → T.P.mc f = none → ∃ a, mg (T.fname f) = some (.ref a) ∧ PySem.W.keepIn K (.ref a) = true ∧ FnG P w K mg base (4 * n) a (SpF T K n f)
  new : ∀ f F c, T.P.fns[f]? = some F → F.ini = some c → ∃ a, mg (T.fname f) = some (.ref (T.CT c).C) ∧ Mk K (T.CT c).C a ∧ FnG P w K mg base (4 * n) a (SpI T K n f c)
  cls : ∀ c, T.P.kc c = true → mg (T.cname c) = some (.ref (T.CT c).C) ∧ SlX.SCls K (T.CT c).C ∧ SlX.SIsi K (T.CT c).C ∧ (T.CT c).slotted = true ∧ ∀ k f, (T.CT c).names[k]? = some f → ∃ p, SlX.Slot1 K (T.CT c).C f p ((T.CT c).place k)
  plc : ∀ c, T.P.kc c = true → ∀ k k', (T.CT c).place k = (T.CT c).place k' → k = k'
  kit : ∀ c, T.P.kc c = true → ∀ a : String, a ∈ ["NoneType", "bool", "int", "str", "list", "tuple", "dict"] → PySem.W.kitOne K (.type a) (.ref (T.CT c).C) = some false ∧ PySem.W.kitOne K (.ref (T.CT c).C) (.type a) = some false
  kitC : ∀ c c', T.P.kc c = true → T.P.kc c' = true → PySem.W.kitOne K (.ref (T.CT c).C) (.ref (T.CT c').C) = some (c' == c)
  meth : ∀ f F c, T.P.fns[f]? = some F → F.ini = none → T.P.mc f = some c → ∃ a, SlX.SCls K (T.CT c).C ∧ (T.CT c).slotted = true ∧ Meth K (T.CT c).C (T.mname f) a ∧ FnG P w K mg base (4 * n) a (SpF T K n f)

structure XOk (T : Tab) (n : Nat) (N : List Str) (sc : Scope) (X : Cx) : Prop where
  hN : X.N = N
  nd : N.Nodup
  hsc : X.env.scope = sc
  calm : X.calm = true
  room : Room (4 * n + 3) X.A
  gd : X.A.guards = some []
  F : Facts T n X.prog X.w X.K X.mg X.base
structure Sit (T : Tab) (n : Nat) (N : List Str) (sc : Scope) (X : Cx) (W : WX) (r : Rho) (σ : L2.St) (α : List Addr) (H : Hp) (G : Addr → Prop) (st : Store) : Prop where
  ok : XOk T n N sc X
  tk : Takes X W
  env : EnvV X.K T.CT α G H r σ
  ws : WS α st H
  gf : GF G H
  len : σ.length = N.length

section
variable {T : Tab} {n : Nat} {N : List Str} {sc : Scope} {X : Cx} {W : WX} {r : Rho} {σ : L2.St} {α α1 : List Addr} {H H1 : Hp} {G : Addr → Prop} {st st1 : Store}
theorem XOk.hu (ok : XOk T n N sc X) : X.A.units + 64 < cLine := ok.room.units
/-- behind an evaluation whose value is shared from now on -/
theorem Sit.keep (S : Sit T n N sc X W r σ α H G st) (e : Ext α H α1 H1) (w : WS α1 st1 H1) : Sit T n N sc X W r σ α1 H1 G st1 :=
  ⟨S.ok, S.tk, S.env.ext e fun a g _ => g, w, S.gf.ext e, S.len⟩
/-- .. whose value is one's own -/
theorem Sit.own (S : Sit T n N sc X W r σ α H G st) (e : Ext α H α1 H1) (w : WS α1 st1 H1) {os : List Addr} (fr : ∀ a ∈ os, H a = none) (tr : ∀ a ∈ os, ∃ u, H1 a = some u) : Sit T n N sc X W r σ α1 H1 (Gm G os) st1 :=
  ⟨S.ok, S.tk, S.env.ext e fun a g ⟨u, hu⟩ => ⟨g, fun z => by rw [fr a z] at hu; cases hu⟩, w, (S.gf.ext e).minus tr, S.len⟩
variable {K : PySem.W.Frag} {CT : CTab}
theorem Post.tr {st' : Store} {o : Own} {d : D} {v : V} {H' : Hp} {α' os : List Addr} (p : Post K CT α H G st' o d v H' α' os) : ∀ a ∈ os, ∃ u, H' a = some u := fun a ha => (Rep.own d p.rep a ha).1
theorem PostL.tr {st' : Store} {b : Bool} {ds : List D} {vs : List V} {H' : Hp} {α' os : List Addr} (p : PostL K CT α H G st' b ds vs H' α' os) : ∀ a ∈ os, ∃ u, H' a = some u := fun a ha => (RepL.own ds p.rep a ha).1
variable {G1 : Addr → Prop}
theorem SatE.bind {Q : VK} (e : Ext α H α1 H1) (hG : ∀ a, G1 a → G a) {m : R VD} {f : VD → Store → R VD} (h : SatE K CT W σ α H G Q (m.bind f)) :
    SatE K CT W σ α1 H1 G1 (fun x H' => ∃ v st' α' os, Post K CT α1 H1 G1 st' v.1 v.2 x H' α' os ∧ SatE K CT W σ α H G Q (f v st')) m := by
  cases m with
  | ok v st' => exact fun x H' α' os p => ⟨v, st', α', os, p, h⟩
  | exc c ds st' => exact ExcW.from e hG h
  | no => exact h
theorem SatL.bindE {Q : List V → Hp → Prop} (e : Ext α H α1 H1) (hG : ∀ a, G1 a → G a) {m : R VD} {f : VD → Store → R (Bool × List D)} (h : SatL K CT W σ α H G Q (m.bind f)) :
    SatE K CT W σ α1 H1 G1 (fun x H' => ∃ v st' α' os, Post K CT α1 H1 G1 st' v.1 v.2 x H' α' os ∧ SatL K CT W σ α H G Q (f v st')) m := by
  cases m with
  | ok v st' => exact fun x H' α' os p => ⟨v, st', α', os, p, h⟩
  | exc c ds st' => exact ExcW.from e hG h
  | no => exact h
theorem SatL.bindL {Q : List V → Hp → Prop} (e : Ext α H α1 H1) (hG : ∀ a, G1 a → G a) {m : R (Bool × List D)} {f : Bool × List D → Store → R (Bool × List D)} (h : SatL K CT W σ α H G Q (m.bind f)) :
    SatL K CT W σ α1 H1 G1 (fun x H' => ∃ v st' α' os, PostL K CT α1 H1 G1 st' v.1 v.2 x H' α' os ∧ SatL K CT W σ α H G Q (f v st')) m := by
  cases m with
  | ok v st' => exact fun x H' α' os p => ⟨v, st', α', os, p, h⟩
  | exc c ds st' => exact ExcW.from e hG h
  | no => exact h
theorem SatE.bindL {Q : VK} (e : Ext α H α1 H1) (hG : ∀ a, G1 a → G a) {m : R (Bool × List D)} {f : Bool × List D → Store → R VD} (h : SatE K CT W σ α H G Q (m.bind f)) :
    SatL K CT W σ α1 H1 G1 (fun x H' => ∃ v st' α' os, PostL K CT α1 H1 G1 st' v.1 v.2 x H' α' os ∧ SatE K CT W σ α H G Q (f v st') ∧ m = .ok v st') m := by
  cases m with
  | ok v st' => exact fun x H' α' os p => ⟨v, st', α', os, p, h, rfl⟩
  | exc c ds st' => exact ExcW.from e hG h
  | no => exact h
theorem SatT.bind {Q : Bool → Hp → Prop} (e : Ext α H α1 H1) (hG : ∀ a, G1 a → G a) {m : R VD} {f : VD → Store → R VD} (h : SatT K CT W σ α H G Q (m.bind f)) :
    SatE K CT W σ α1 H1 G1 (fun x H' => ∃ v st' α' os, Post K CT α1 H1 G1 st' v.1 v.2 x H' α' os ∧ SatT K CT W σ α H G Q (f v st')) m := by
  cases m with
  | ok v st' => exact fun x H' α' os p => ⟨v, st', α', os, p, h⟩
  | exc c ds st' => exact ExcW.from e hG h
  | no => exact h
/-- a test ahead -/
theorem SatE.bindT {Q : VK} (e : Ext α H α1 H1) (hG : ∀ a, G1 a → G a) {m : R VD} {a b : Store → R VD} {f : VD → Store → R VD} (hf : ∀ v st, f v st = match truthD v.2 with | some true => a st | some false => b st | none => .no) (h : SatE K CT W σ α H G Q (m.bind f)) :
    SatT K CT W σ α1 H1 G1 (fun c H' => ∃ st' α', Ext α1 H1 α' H' ∧ WS α' st' H' ∧ SatE K CT W σ α H G Q (if c = true then a st' else b st')) m := by
  cases m with
  | ok v st' =>
    have h : SatE K CT W σ α H G Q (f v st') := h
    rw [hf] at h
    cases q : truthD v.2 with
    | none => rw [q] at h; exact h.elim
    | some c =>
      refine ⟨c, q, fun H' α' e w => ⟨st', α', e, w, ?_⟩⟩
      cases c <;> simpa [q] using h
  | exc c ds st' => exact ExcW.from e hG h
  | no => exact h
theorem SatT.bindT {Q : Bool → Hp → Prop} (e : Ext α H α1 H1) (hG : ∀ a, G1 a → G a) {m : R VD} {a b : VD → Store → R VD} {f : VD → Store → R VD} (hf : ∀ v st, f v st = match truthD v.2 with | some true => a v st | some false => b v st | none => .no)
    (h : SatT K CT W σ α H G Q (m.bind f)) :
    SatT K CT W σ α1 H1 G1 (fun c H' => ∃ v st' α', truthD v.2 = some c ∧ Ext α1 H1 α' H' ∧ WS α' st' H' ∧ SatT K CT W σ α H G Q (if c = true then a v st' else b v st')) m := by
  cases m with
  | ok v st' =>
    have h : SatT K CT W σ α H G Q (f v st') := h
    rw [hf] at h
    cases q : truthD v.2 with
    | none => rw [q] at h; exact h.elim
    | some c =>
      refine ⟨c, q, fun H' α' e w => ⟨v, st', α', q, e, w, ?_⟩⟩
      cases c <;> simpa [q] using h
  | exc c ds st' => exact ExcW.from e hG h
  | no => exact h
theorem SatT.from {Q : Bool → Hp → Prop} (e : Ext α H α1 H1) (hG : ∀ a, G1 a → G a) {x : R VD} (h : SatT K CT W σ α H G Q x) : SatT K CT W σ α1 H1 G1 Q x := by
  cases x with
  | ok v st' =>
    obtain ⟨b, hb, q⟩ := h
    exact ⟨b, hb, fun H' α' e' w => q H' α' (e.trans e') w⟩
  | exc c ds st' => exact ExcW.from e hG h
  | no => exact h
/-- as a value, then its truth -/
theorem SatT.toE {Q : Bool → Hp → Prop} {m : R VD} (h : SatT K CT W σ α H G Q m) : SatE K CT W σ α H G (fun x H' => ∃ (v : VD) (st' : Store) (α' os : List Addr) (b : Bool), Post K CT α H G st' v.1 v.2 x H' α' os ∧ truthD v.2 = some b ∧ Q b H') m := by
  cases m with
  | ok v st' =>
    obtain ⟨b, hb, q⟩ := h
    exact fun x H' α' os p => ⟨v, st', α', os, b, p, hb, q H' α' p.ext p.ws⟩
  | exc c ds st' => exact h
  | no => exact h
theorem SatE.mono {Q Q' : VK} {m : R VD} (h : SatE K CT W σ α H G Q m) (k : ∀ x H', Q x H' → Q' x H') : SatE K CT W σ α H G Q' m := by
  cases m with
  | ok v st' => exact fun x H' α' os p => k _ _ (h x H' α' os p)
  | exc c ds st' => exact h
  | no => exact h
end

def ImplE (T : Tab) (N : List Str) (sc : Scope) (e : Expr) (e' : Ex) : Prop := ∀ (n : Nat) (X : Cx) (W : WX) (σ : L2.St) (H : Hp) (r : Rho) (st : Store) (α : List Addr) (G : Addr → Prop) (Q : VK),
  Sit T n N sc X W r σ α H G st → SatE X.K T.CT W σ α H G Q (evE (T.P.env n) e' r st) → wE X e σ H Q
def ImplT (T : Tab) (N : List Str) (sc : Scope) (e : Expr) (e' : Ex) : Prop := ∀ (n : Nat) (X : Cx) (W : WX) (σ : L2.St) (H : Hp) (r : Rho) (st : Store) (α : List Addr) (G : Addr → Prop) (Q : Bool → Hp → Prop),
  Sit T n N sc X W r σ α H G st → SatT X.K T.CT W σ α H G Q (evE (T.P.env n) e' r st) → wT X e σ H Q
def ImplL (T : Tab) (N : List Str) (sc : Scope) (es : List Expr) (es' : Exs) : Prop := ∀ (n : Nat) (X : Cx) (W : WX) (σ : L2.St) (H : Hp) (r : Rho) (st : Store) (α : List Addr) (G : Addr → Prop) (Q : List V → Hp → Prop),
  Sit T n N sc X W r σ α H G st → SatL X.K T.CT W σ α H G Q (evEs (T.P.env n) es' r st) → wL X es σ H Q

theorem wT.mono {X : Cx} {e : Expr} {σ : L2.St} {H : Hp} {Q Q' : Bool → Hp → Prop} (h : wT X e σ H Q) (k : ∀ v H', Q v H' → Q' v H') : wT X e σ H Q' := fun pins s I =>
  thn (h pins s I) fun u s' ⟨H', I', q⟩ => ⟨H', I', k u H' q⟩
theorem wL.mono {X : Cx} {es : List Expr} {σ : L2.St} {H : Hp} {Q Q' : List V → Hp → Prop} (h : wL X es σ H Q) (k : ∀ v H', Q v H' → Q' v H') : wL X es σ H Q' := fun pos pins s I =>
  thn (h pos pins s I) fun u s' ⟨v, H', I', r, q⟩ => ⟨v, H', I', r, k v H' q⟩

/-! ### truth -/
theorem tru_rep {X : Cx} {CT : CTab} {α : List Addr} {G : Addr → Prop} {H : Hp} {d : D} {o : Own} {v : V} {os : List Addr} {b : Bool} (hb : truthD d = some b) (h : Rep X.K CT α G H d o v os) {pins : List (Addr × Obj)} {s : Shared} {σ : L2.St} {u : Value} {Q : Bool → Hp → Prop}
    (I : Inv X pins σ H s) (ru : RelV v u) (q : Q b H) : wpAny (model X.prog X.w) X.A (truthy u) (TP X pins σ Q) X.xe s := by
  cases d with
  | non => unfold Rep at h; cases hb; rw [h.1] at ru; exact tru_ok pins s σ H .non u Q I ru ⟨false, rfl, q⟩
  | bl c => unfold Rep at h; cases hb; rw [h.1] at ru; exact tru_ok pins s σ H (.bl _) u Q I ru ⟨_, rfl, q⟩
  | int i => unfold Rep at h; cases hb; rw [h.1] at ru; exact tru_ok pins s σ H (.int _) u Q I ru ⟨_, rfl, q⟩
  | str t =>
    unfold Rep at h
    rw [h.1] at ru
    have hb : (if t.length ≤ maxLen then some (!t.isEmpty) else none) = some b := hb
    split at hb
    · rename_i hz
      cases hb
      refine tru_ok pins s σ H (.str _) u Q I ru ⟨_, ⟨by rw [toStr_len]; exact maxLen_le hz, rfl⟩, ?_⟩
      rw [toStr_len]
      cases t with
      | nil => exact q
      | cons c t => exact (show Q true H from q)
    · cases hb
  | lst xs =>
    unfold Rep at h
    obtain ⟨a, vs, os', rfl, na, rx, ha⟩ := h
    cases hb
    have ha' : H a = some (.lst vs) := by split at ha <;> first | exact ha.2.1 | exact ha.1
    refine tru_ok pins s σ H (.ref a) u Q I ru ⟨!vs.isEmpty, .inl ⟨vs, .inl (.inl ha'), rfl⟩, ?_⟩
    have l := rx.len
    have e : vs.isEmpty = xs.isEmpty := by cases vs <;> cases xs <;> simp_all
    rw [e]; exact q
  | tup xs =>
    unfold Rep at h
    obtain ⟨a, vs, rfl, ha, rx⟩ := h
    cases hb
    refine tru_ok pins s σ H (.ref a) u Q I ru ⟨!vs.isEmpty, .inr (.inl ⟨vs, ha.sqT, rfl⟩), ?_⟩
    have l := rx.len
    have e : vs.isEmpty = xs.isEmpty := by cases vs <;> cases xs <;> simp_all
    rw [e]; exact q
  | dic ks ds =>
    unfold Rep at h
    obtain ⟨a, kvs, os', rfl, na, hk, rx, ha⟩ := h
    cases hb
    have ha' : Rd H a (.dK kvs) := by split at ha <;> first | exact ha.2.1 | exact .inl ha.1
    obtain rfl : u = .ref a := ru
    refine d_truth I ha' fun s' I' => ⟨H, I', ?_⟩
    have l := keysR_len hk
    have e : kvs.isEmpty = ks.isEmpty := by cases kvs <;> cases ks <;> simp_all
    rw [e]; exact q
  | ins c fs => cases hb
  | hnd n => cases hb
  | scr xs => cases hb

/-- expressions whose test is their value's truth -/
def plainTest : Expr → Bool
  | .UnaryOp .Not _ _ => false
  | .BoolOp _ _ _ => false
  | .IfExp _ _ _ _ => false
  | .Compare _ _ _ _ => false
  | _ => true
theorem plainTest_by {e : Expr} (h : plainTest e = true) (env : PySem.Env) : ∀ whole, isTrue e env whole = (do let v ← whole; standAt e.pos; holding [v] (truthy v)) := by
  intro whole
  cases e <;> first
    | rfl
    | cases h
    | (rename_i op x pos; cases op <;> first | rfl | cases h)
section
variable {T : Tab} {N : List Str} {sc : Scope}
theorem ImplE.test {e : Expr} {e' : Ex} (h : ImplE T N sc e e') (hp : plainTest e = true) : ImplT T N sc e e' := by
  intro n X W σ H r st α G Q S hs pins s I
  have z := h n X W σ H r st α G _ S hs.toE
  refine isTrue_plain (thn (z pins s I) fun u s1 ⟨v, H1, I1, ru, d, st', α', os, b, p, hb, q⟩ => ?_) (plainTest_by hp X.env _)
  exact tru_rep hb p.rep I1 ru q
end
end PD
/-! DEx2: the forms of an expression -/
namespace PD
open PySem PySem.Spec PyProof.Rows L2
section
variable {T : Tab} {N : List Str} {sc : Scope}

/-! ### names, constants -/
theorem impl_var {i : Nat} {x : Str} {pos : Pos} (hi : N[i]? = some x) (hv : Vis sc x) (h1 : (x == ("__debug__" : Str)) = false) (h2 : (x == ("__classdict__" : Str)) = false) : ImplE T N sc (.Name x pos) (.var i) := by
  intro n X W σ H r st α G Q S h
  unfold evE at h
  refine wE.of (pe_var (by rw [S.ok.hN]; exact hi) (by rw [S.ok.hsc]; exact hv) h1 h2) ?_
  split at h
  · rename_i d hd
    obtain ⟨v, hs, rep⟩ := S.env i d hd
    refine ⟨v, hs, h v H α [] ⟨Ext.refl _ _, S.ws, ?_, fun _ z => (by cases z), List.nodup_nil⟩⟩
    have rep' : Rep X.K T.CT α (Gm G []) H d .no v [] := Rep.ext (Ext.refl _ _) (fun a g _ => ⟨g, by simp⟩) d rep
    show Rep X.K T.CT α (Gm G []) H d (flatO d) v []
    unfold flatO
    split
    · rename_i f
      exact (Rep.flat d f rep').2
    · exact rep'
  · exact h.elim
theorem impl_lit_int {i : Int} {j : Nat} {pos : Pos} : ImplE T N sc (.Constant (.int i) j pos) (.lit (.int i)) := by
  intro n X W σ H r st α G Q S h
  unfold evE at h
  exact wE.of pe_int (h _ _ _ _ (.int S.ws))
theorem impl_lit_bl {i : Bool} {j : Nat} {pos : Pos} : ImplE T N sc (.Constant (.bool i) j pos) (.lit (.bl i)) := by
  intro n X W σ H r st α G Q S h
  unfold evE at h
  exact wE.of pe_bl (h _ _ _ _ (.bl S.ws))
theorem impl_lit_non {j : Nat} {pos : Pos} : ImplE T N sc (.Constant .none j pos) (.lit .non) := by
  intro n X W σ H r st α G Q S h
  unfold evE at h
  exact wE.of pe_non (h _ _ _ _ (.non S.ws))
theorem impl_lit_str {x : Str} {s : List Nat} {j : Nat} {pos : Pos} (hx : x.cps.toList = s) : ImplE T N sc (.Constant (.str x) j pos) (.lit (.str s)) := by
  intro n X W σ H r st α G Q S h
  unfold evE at h
  have e : toStr s = x := by
    subst hx
    show (⟨x.cps.toList.toArray⟩ : Str) = x
    cases x
    simp
  refine wE.of pe_str ?_
  show Q (.str x) H
  rw [← e]
  exact h _ _ _ _ (.str S.ws)
theorem Rep.free {K : PySem.W.Frag} {CT : CTab} {α : List Addr} {G : Addr → Prop} {H : Hp} {d : D} {o : Own} {v : V} {os : List Addr} (h : Rep K CT [] (fun _ => False) (fun _ => none) d o v os) : Rep K CT α G H d o v os :=
  go d h
where
  go : ∀ (d : D) {o : Own} {v : V} {os : List Addr}, Rep K CT [] (fun _ => False) (fun _ => none) d o v os → Rep K CT α G H d o v os
  | .non, _, _, _, h => by unfold Rep at h ⊢; exact h
  | .bl _, _, _, _, h => by unfold Rep at h ⊢; exact h
  | .int _, _, _, _, h => by unfold Rep at h ⊢; exact h
  | .str _, _, _, _, h => by unfold Rep at h ⊢; exact h
  | .hnd n, _, _, _, h => by
    unfold Rep at h
    obtain ⟨⟨a, h1, _⟩, _⟩ := h
    simp at h1
  | .scr xs, _, _, _, h => by
    unfold Rep at h ⊢
    obtain ⟨⟨a, h1, h2⟩, h3⟩ := h
    refine ⟨⟨a, h1, ?_⟩, h3⟩
    rcases h2 with ⟨h2, _⟩ | h2
    · rcases h2 with z | ⟨_, z⟩ <;> cases z
    · exact .inr h2
  | .tup xs, _, _, _, h => by
    unfold Rep at h ⊢
    obtain ⟨a, vs, h1, h2, h3⟩ := h
    refine ⟨a, vs, h1, ?_, goL xs h3⟩
    rcases h2 with ⟨h2, _⟩ | h2
    · rcases h2 with z | ⟨_, z⟩ <;> cases z
    · exact .inr h2
  | .lst xs, _, _, _, h => by
    unfold Rep at h
    obtain ⟨a, vs, os', h1, h2, h3, h4⟩ := h
    split at h4
    · exact h4.1.elim
    · cases h4.1
  | .dic ks ds, _, _, _, h => by
    unfold Rep at h
    obtain ⟨a, kvs, os', h1, h2, hk, h3, h4⟩ := h
    split at h4
    · exact h4.1.elim
    · cases h4.1
  | .ins c fs, _, _, _, h => by
    unfold Rep at h
    obtain ⟨a, dx, us, os', h1, h2, h3, hne, ⟨_, ta⟩, _⟩ := h
    cases ta
  goL : ∀ (ds : List D) {o : Own} {vs : List V} {os : List Addr}, RepL K CT [] (fun _ => False) (fun _ => none) ds o vs os → RepL K CT α G H ds o vs os
  | [], _, _, _, h => by unfold RepL at h ⊢; exact h
  | d :: ds, _, _, _, h => by
    unfold RepL at h ⊢
    obtain ⟨v, r, os1, os2, h1, h2, h3, h4⟩ := h
    exact ⟨v, r, os1, os2, h1, h2, go d h3, goL ds h4⟩
theorem impl_glob {k : Nat} {x : Str} {pos : Pos} (hx : x = T.gname k) (hg : sc.names.lookup x = some .globalImplicit) (hd : (x == ("__debug__" : Str)) = false) : ImplE T N sc (.Name x pos) (.glob k) := by
  intro n X W σ H r st α G Q S h
  unfold evE at h
  split at h
  · rename_i d hk
    obtain ⟨u, v, h1, h2, h3⟩ := S.ok.F.gl k d hk
    refine wE.of (pe_glob (v := v) (u := u) (by show X.env.scope.names.lookup x = _; rw [S.ok.hsc]; exact hg) (by rw [hx]; exact h1) h2 hd) ?_
    refine h v H α [] ⟨Ext.refl _ _, S.ws, ?_, fun _ z => (by cases z), List.nodup_nil⟩
    have rep' : Rep X.K T.CT α (Gm G []) H d .no v [] := Rep.free h3
    show Rep X.K T.CT α (Gm G []) H d (flatO d) v []
    unfold flatO
    split
    · rename_i f
      exact (Rep.flat d f rep').2
    · exact rep'
  · exact h.elim

/-! ### operators -/
theorem SatE.ofD {K : PySem.W.Frag} {CT : CTab} {W : WX} {σ : L2.St} {α : List Addr} {H : Hp} {G : Addr → Prop} {Q : VK} {res : Option VD} {st : Store} (h : SatE K CT W σ α H G Q (.of res st)) :
    ∃ o d, res = some (o, d) ∧ ∀ x H' α' os, Post K CT α H G st o d x H' α' os → Q x H' := by
  cases res with
  | none => exact h.elim
  | some v => exact ⟨v.1, v.2, rfl, h⟩
theorem impl_bin {a b : Expr} {a' b' : Ex} {op : Bop} {pos : Pos} (ha : ImplE T N sc a a') (hb : ImplE T N sc b b') : ImplE T N sc (.BinOp a (pyBop op) b pos) (.bin op a' b') := by
  intro n X W σ H r st α G Q S h
  unfold evE at h
  refine wE.of (pe_op op_w pe_w pe_w) ?_
  refine wE.mono (ha n X W σ H r st α G _ S (h.bind (Ext.refl _ _) fun _ g => g)) fun x H1 ⟨v, st1, α1, os1, p1, h1⟩ => ?_
  have S1 := S.keep p1.ext p1.ws
  refine wE.mono (hb n X W σ H1 r st1 α1 G _ S1 (h1.bind p1.ext fun _ g => g)) fun y H2 ⟨w, st2, α2, os2, p2, h2⟩ => ?_
  obtain ⟨o, d, e, q⟩ := h2.ofD
  have S2 := S1.keep p2.ext p2.ws
  exact binOp_ok op v.2 w.2 o d e x y α2 G st2 H2 (Rep.ext p2.ext (fun _ g _ => g) _ (p1.shared S.gf)) (p2.shared S1.gf) S2.ws S2.gf Q fun z H3 os p3 => q z H3 α2 os (p3.from (p1.ext.trans p2.ext) fun _ g => g)
theorem impl_neg {a : Expr} {a' : Ex} {pos : Pos} (ha : ImplE T N sc a a') : ImplE T N sc (.UnaryOp .USub a pos) (.neg a') := by
  intro n X W σ H r st α G Q S h
  unfold evE at h
  refine wE.of (pe_un un_neg pe_w) ?_
  refine wE.mono (ha n X W σ H r st α G _ S (h.bind (Ext.refl _ _) fun _ g => g)) fun x H1 ⟨v, st1, α1, os1, p1, h1⟩ => ?_
  split at h1
  · rename_i i hv
    have rp := p1.rep
    rw [hv] at rp
    rw [rep_int rp]
    exact ⟨i, rfl, h1 _ _ α1 [] ((Post.int p1.ws).from p1.ext fun _ g => g)⟩
  · exact h1.elim
/-- two values compared -/
theorem impl_cmp {a b : Expr} {a' b' : Ex} {op : Cop} {pos : Pos} (ha : ImplE T N sc a a') (hb : ImplE T N sc b b') (hm : behindInMarks (pyCop op) b = false) : ImplE T N sc (.Compare a [pyCop op] [b] pos) (.cmp op a' b') := by
  intro n X W σ H r st α G Q S h
  unfold evE at h
  refine wE.of (pe_cmpR op_w pe_w pe_w hm) ?_
  refine wE.mono (ha n X W σ H r st α G _ S (h.bind (Ext.refl _ _) fun _ g => g)) fun x H1 ⟨v, st1, α1, os1, p1, h1⟩ => ?_
  have S1 := S.keep p1.ext p1.ws
  refine wE.mono (hb n X W σ H1 r st1 α1 G _ S1 (h1.bind p1.ext fun _ g => g)) fun y H2 ⟨w, st2, α2, os2, p2, h2⟩ => ?_
  obtain ⟨o, d, e, q⟩ := h2.ofD
  have S2 := S1.keep p2.ext p2.ws
  exact cmpOp_ok S.ok.hu op v.2 w.2 o d e x y α2 G st2 H2 (Rep.ext p2.ext (fun _ g _ => g) _ (p1.shared S.gf)) (p2.shared S1.gf) S2.ws S2.gf Q fun z H3 os p3 => q z H3 α2 os (p3.from (p1.ext.trans p2.ext) fun _ g => g)
theorem impl_cmpT {a b : Expr} {a' b' : Ex} {op : Cop} {pos : Pos} (ha : ImplE T N sc a a') (hb : ImplE T N sc b b') (hm : behindInMarks (pyCop op) b = false) : ImplT T N sc (.Compare a [pyCop op] [b] pos) (.cmp op a' b') := by
  intro n X W σ H r st α G Q S h
  unfold evE at h
  refine wT.of (pt_cmpR op_w pe_w pe_w hm) ?_
  refine wE.mono (ha n X W σ H r st α G _ S (h.bind (Ext.refl _ _) fun _ g => g)) fun x H1 ⟨v, st1, α1, os1, p1, h1⟩ => ?_
  have S1 := S.keep p1.ext p1.ws
  refine wE.mono (hb n X W σ H1 r st1 α1 G _ S1 (h1.bind p1.ext fun _ g => g)) fun y H2 ⟨w, st2, α2, os2, p2, h2⟩ => ?_
  have S2 := S1.keep p2.ext p2.ws
  cases hc : cmpD op v.2 w.2 with
  | none => rw [hc] at h2; exact h2.elim
  | some c =>
    rw [hc] at h2
    obtain ⟨b, hb, q⟩ := h2
    cases hb
    refine cmpOp_ok S.ok.hu op v.2 w.2 .all (.bl c) (by rw [hc]; rfl) x y α2 G st2 H2 (Rep.ext p2.ext (fun _ g _ => g) _ (p1.shared S.gf)) (p2.shared S1.gf) S2.ws S2.gf _ fun z H3 os p3 => ?_
    have z1 := p3.rep
    unfold Rep at z1
    exact ⟨c, z1.1, q H3 α2 ((p1.ext.trans p2.ext).trans p3.ext) p3.ws⟩
/-- a op b op' c -/
theorem impl_chain {a b c : Expr} {a' b' c' : Ex} {op op' : Cop} {pos : Pos} (ha : ImplE T N sc a a') (hb : ImplE T N sc b b') (hc : ImplE T N sc c c') (hm : lastMarks [pyCop op, pyCop op'] [b, c] = false) :
    ImplE T N sc (.Compare a [pyCop op, pyCop op'] [b, c] pos) (.chain op op' a' b' c') := by
  intro n X W σ H r st α G Q S h
  unfold evE at h
  refine wE.of (pe_chain op_w op_w pe_w pe_w pe_w hm) ?_
  refine wE.mono (ha n X W σ H r st α G _ S (h.bind (Ext.refl _ _) fun _ g => g)) fun x H1 ⟨v, st1, α1, os1, p1, h1⟩ => ?_
  have S1 := S.keep p1.ext p1.ws
  refine wE.mono (hb n X W σ H1 r st1 α1 G _ S1 (h1.bind p1.ext fun _ g => g)) fun y H2 ⟨w, st2, α2, os2, p2, h2⟩ => ?_
  have S2 := S1.keep p2.ext p2.ws
  have ry := p2.shared S1.gf
  cases hk : cmpD op v.2 w.2 with
  | none => rw [hk] at h2; exact h2.elim
  | some k =>
    rw [hk] at h2
    refine cmpOp_ok S.ok.hu op v.2 w.2 .all (.bl k) (by rw [hk]; rfl) x y α2 G st2 H2 (Rep.ext p2.ext (fun _ g _ => g) _ (p1.shared S.gf)) ry S2.ws S2.gf _ fun z H3 os p3 => ?_
    have z1 := p3.rep
    unfold Rep at z1
    have e3 := (p1.ext.trans p2.ext).trans p3.ext
    refine ⟨k, z1.1, ?_⟩
    cases k with
    | false => exact h2 _ H3 α2 [] ((Post.bl p3.ws).from e3 fun _ g => g)
    | true =>
      have S3 := S2.keep p3.ext p3.ws
      refine wE.mono (hc n X W σ H3 r st2 α2 G _ S3 (h2.bind e3 fun _ g => g)) fun z2 H4 ⟨w2, st4, α4, os4, p4, h4⟩ => ?_
      obtain ⟨o, d, e, q⟩ := h4.ofD
      have S4 := S3.keep p4.ext p4.ws
      exact cmpOp_ok S.ok.hu op' w.2 w2.2 o d e y z2 α4 G st4 H4 (Rep.ext (p3.ext.trans p4.ext) (fun _ g _ => g) _ ry) (p4.shared S3.gf) S4.ws S4.gf Q fun z H5 os p5 => q z H5 α4 os (p5.from (e3.trans p4.ext) fun _ g => g)
theorem impl_chainT {a b c : Expr} {a' b' c' : Ex} {op op' : Cop} {pos : Pos} (ha : ImplE T N sc a a') (hb : ImplE T N sc b b') (hc : ImplE T N sc c c') (hm : lastMarks [pyCop op, pyCop op'] [b, c] = false) :
    ImplT T N sc (.Compare a [pyCop op, pyCop op'] [b, c] pos) (.chain op op' a' b' c') := by
  intro n X W σ H r st α G Q S h
  unfold evE at h
  refine wT.of (pt_chain op_w op_w pe_w pe_w pe_w hm) ?_
  refine wE.mono (ha n X W σ H r st α G _ S (h.bind (Ext.refl _ _) fun _ g => g)) fun x H1 ⟨v, st1, α1, os1, p1, h1⟩ => ?_
  have S1 := S.keep p1.ext p1.ws
  refine wE.mono (hb n X W σ H1 r st1 α1 G _ S1 (h1.bind p1.ext fun _ g => g)) fun y H2 ⟨w, st2, α2, os2, p2, h2⟩ => ?_
  have S2 := S1.keep p2.ext p2.ws
  have ry := p2.shared S1.gf
  cases hk : cmpD op v.2 w.2 with
  | none => rw [hk] at h2; exact h2.elim
  | some k =>
    rw [hk] at h2
    refine cmpOp_ok S.ok.hu op v.2 w.2 .all (.bl k) (by rw [hk]; rfl) x y α2 G st2 H2 (Rep.ext p2.ext (fun _ g _ => g) _ (p1.shared S.gf)) ry S2.ws S2.gf _ fun z H3 os p3 => ?_
    have z1 := p3.rep
    unfold Rep at z1
    have e3 := (p1.ext.trans p2.ext).trans p3.ext
    refine ⟨k, z1.1, ?_⟩
    cases k with
    | false =>
      obtain ⟨b, hb, q⟩ := h2
      cases hb
      exact ⟨false, rfl, q H3 α2 e3 p3.ws⟩
    | true =>
      have S3 := S2.keep p3.ext p3.ws
      refine wE.mono (hc n X W σ H3 r st2 α2 G _ S3 (SatT.bind e3 (fun _ g => g) h2)) fun z2 H4 ⟨w2, st4, α4, os4, p4, h4⟩ => ?_
      have S4 := S3.keep p4.ext p4.ws
      cases hk2 : cmpD op' w.2 w2.2 with
      | none => rw [hk2] at h4; exact h4.elim
      | some k2 =>
        rw [hk2] at h4
        obtain ⟨b, hb, q⟩ := h4
        cases hb
        refine cmpOp_ok S.ok.hu op' w.2 w2.2 .all (.bl k2) (by rw [hk2]; rfl) y z2 α4 G st4 H4 (Rep.ext (p3.ext.trans p4.ext) (fun _ g _ => g) _ ry) (p4.shared S3.gf) S4.ws S4.gf _ fun z H5 os p5 => ?_
        have z1 := p5.rep
        unfold Rep at z1
        exact ⟨k2, z1.1, q H5 α4 ((e3.trans p4.ext).trans p5.ext) p5.ws⟩

/-! ### and, or, not, if -/
theorem impl_one {a : Expr} {a' : Ex} {op : BoolOp} {pos : Pos} (ha : ImplE T N sc a a') : ImplE T N sc (.BoolOp op [a] pos) a' := fun n X W σ H r st α G Q S h => wE.of (pe_one pe_w) (ha n X W σ H r st α G Q S h)
theorem impl_oneAT {a : Expr} {a' : Ex} {pos : Pos} (ha : ImplT T N sc a a') : ImplT T N sc (.BoolOp .And [a] pos) a' := fun n X W σ H r st α G Q S h => wT.of (pw_and1 pt_w).pt (ha n X W σ H r st α G Q S h)
theorem impl_oneOT {a : Expr} {a' : Ex} {pos : Pos} (ha : ImplT T N sc a a') : ImplT T N sc (.BoolOp .Or [a] pos) a' := fun n X W σ H r st α G Q S h => wT.of (pw_or1 pt_w).pt (ha n X W σ H r st α G Q S h)
theorem impl_and {a b : Expr} {es : List Expr} {a' b' : Ex} {pos : Pos} (ha : ImplE T N sc a a') (hb : ImplE T N sc (.BoolOp .And (b :: es) pos) b') : ImplE T N sc (.BoolOp .And (a :: b :: es) pos) (.andE a' b') := by
  intro n X W σ H r st α G Q S h pins s I
  unfold evE at h
  refine BoolOp_and (thn (ha n X W σ H r st α G _ S (h.bind (Ext.refl _ _) fun _ g => g) pins s I) fun u s1 ⟨x, H1, I1, ru, v, st1, α1, os1, p1, h1⟩ => ?_)
  split at h1
  · rename_i ht
    exact thn (tru_rep (Q := fun c H' => c = true ∧ H' = H1) ht p1.rep I1 ru ⟨rfl, rfl⟩) fun c s2 ⟨H2, I2, e1, e2⟩ => by
      subst e1 e2
      exact hb n X W σ H2 r st1 α1 G Q (S.keep p1.ext p1.ws) (h1.from p1.ext fun _ g => g) pins s2 I2
  · rename_i ht
    exact thn (tru_rep (Q := fun c H' => c = false ∧ H' = H1) ht p1.rep I1 ru ⟨rfl, rfl⟩) fun c s2 ⟨H2, I2, e1, e2⟩ => by
      subst e1 e2
      exact ⟨x, H2, I2, ru, h1 x H2 α1 os1 p1⟩
  · exact h1.elim
theorem impl_or {a b : Expr} {es : List Expr} {a' b' : Ex} {pos : Pos} (ha : ImplE T N sc a a') (hb : ImplE T N sc (.BoolOp .Or (b :: es) pos) b') : ImplE T N sc (.BoolOp .Or (a :: b :: es) pos) (.orE a' b') := by
  intro n X W σ H r st α G Q S h pins s I
  unfold evE at h
  refine BoolOp_or (thn (ha n X W σ H r st α G _ S (h.bind (Ext.refl _ _) fun _ g => g) pins s I) fun u s1 ⟨x, H1, I1, ru, v, st1, α1, os1, p1, h1⟩ => ?_)
  split at h1
  · rename_i ht
    exact thn (tru_rep (Q := fun c H' => c = false ∧ H' = H1) ht p1.rep I1 ru ⟨rfl, rfl⟩) fun c s2 ⟨H2, I2, e1, e2⟩ => by
      subst e1 e2
      exact hb n X W σ H2 r st1 α1 G Q (S.keep p1.ext p1.ws) (h1.from p1.ext fun _ g => g) pins s2 I2
  · rename_i ht
    exact thn (tru_rep (Q := fun c H' => c = true ∧ H' = H1) ht p1.rep I1 ru ⟨rfl, rfl⟩) fun c s2 ⟨H2, I2, e1, e2⟩ => by
      subst e1 e2
      exact ⟨x, H2, I2, ru, h1 x H2 α1 os1 p1⟩
  · exact h1.elim
/-- a test whatever its whole -/
def ImplW (T : Tab) (N : List Str) (sc : Scope) (e : Expr) (e' : Ex) : Prop := ∀ (n : Nat) (X : Cx) (W : WX) (σ : L2.St) (H : Hp) (r : Rho) (st : Store) (α : List Addr) (G : Addr → Prop) (Q : Bool → Hp → Prop),
  Sit T n N sc X W r σ α H G st → SatT X.K T.CT W σ α H G Q (evE (T.P.env n) e' r st) → ∀ whole pins s, Inv X pins σ H s → wpAny (model X.prog X.w) X.A (isTrue e X.env whole) (TP X pins σ Q) X.xe s
theorem ImplW.t {e : Expr} {e' : Ex} (h : ImplW T N sc e e') : ImplT T N sc e e' := fun n X W σ H r st α G Q S hs pins s I => h n X W σ H r st α G Q S hs _ pins s I
theorem impl_oneAW {a : Expr} {a' : Ex} {pos : Pos} (ha : ImplT T N sc a a') : ImplW T N sc (.BoolOp .And [a] pos) a' := fun n X W σ H r st α G Q S h wh pins s I => (pw_and1 pt_w).run wh pins s σ H Q I (ha n X W σ H r st α G Q S h)
theorem impl_oneOW {a : Expr} {a' : Ex} {pos : Pos} (ha : ImplT T N sc a a') : ImplW T N sc (.BoolOp .Or [a] pos) a' := fun n X W σ H r st α G Q S h wh pins s I => (pw_or1 pt_w).run wh pins s σ H Q I (ha n X W σ H r st α G Q S h)
theorem impl_andW {a b : Expr} {es : List Expr} {a' b' : Ex} {pos : Pos} (ha : ImplT T N sc a a') (hb : ImplW T N sc (.BoolOp .And (b :: es) pos) b') : ImplW T N sc (.BoolOp .And (a :: b :: es) pos) (.andE a' b') := by
  intro n X W σ H r st α G Q S h wh pins s I
  unfold evE at h
  refine isTrue_and (thn (ha n X W σ H r st α G _ S (h.bindT (Ext.refl _ _) (fun _ g => g) (a := fun _ st => evE (T.P.env n) b' r st) (b := fun v st => .ok v st) fun v st => rfl) pins s I) fun c s1 ⟨H1, I1, v, st1, α1, ht, e1, w1, h1⟩ => ?_)
  cases c with
  | true => exact hb n X W σ H1 r st1 α1 G Q (S.keep e1 w1) (SatT.from e1 (fun _ g => g) h1) wh pins s1 I1
  | false =>
    obtain ⟨b, hb, q⟩ := h1
    rw [ht] at hb
    cases hb
    exact ⟨H1, I1, q H1 α1 e1 w1⟩
theorem impl_orW {a b : Expr} {es : List Expr} {a' b' : Ex} {pos : Pos} (ha : ImplT T N sc a a') (hb : ImplW T N sc (.BoolOp .Or (b :: es) pos) b') : ImplW T N sc (.BoolOp .Or (a :: b :: es) pos) (.orE a' b') := by
  intro n X W σ H r st α G Q S h wh pins s I
  unfold evE at h
  refine isTrue_or (thn (ha n X W σ H r st α G _ S (h.bindT (Ext.refl _ _) (fun _ g => g) (a := fun v st => .ok v st) (b := fun _ st => evE (T.P.env n) b' r st) fun v st => by cases truthD v.2 with | none => rfl | some c => cases c <;> rfl) pins s I) fun c s1 ⟨H1, I1, v, st1, α1, ht, e1, w1, h1⟩ => ?_)
  cases c with
  | false => exact hb n X W σ H1 r st1 α1 G Q (S.keep e1 w1) (SatT.from e1 (fun _ g => g) h1) wh pins s1 I1
  | true =>
    obtain ⟨b, hb, q⟩ := h1
    rw [ht] at hb
    cases hb
    exact ⟨H1, I1, q H1 α1 e1 w1⟩
theorem impl_notT {a : Expr} {a' : Ex} {pos : Pos} (ha : ImplT T N sc a a') : ImplT T N sc (.UnaryOp .Not a pos) (.notE a') := by
  intro n X W σ H r st α G Q S h
  unfold evE at h
  refine wT.of (pt_not pt_w) ?_
  refine ha n X W σ H r st α G _ S ?_
  cases hm : evE (T.P.env n) a' r st with
  | ok v st' =>
    rw [hm] at h
    cases ht : truthD v.2 with
    | none =>
      have h : SatT X.K T.CT W σ α H G Q (R.of ((truthD v.2).map fun c => (Own.all, D.bl (!c))) st') := h
      rw [ht] at h; exact h.elim
    | some c =>
      have h : SatT X.K T.CT W σ α H G Q (R.of ((truthD v.2).map fun c => (Own.all, D.bl (!c))) st') := h
      rw [ht] at h
      obtain ⟨b, hb, q⟩ := h
      cases hb
      exact ⟨c, ht, q⟩
  | exc c ds st' => rw [hm] at h; exact h
  | no => rw [hm] at h; exact h
theorem impl_not {a : Expr} {a' : Ex} {pos : Pos} (ha : ImplE T N sc a a') : ImplE T N sc (.UnaryOp .Not a pos) (.notE a') := by
  intro n X W σ H r st α G Q S h pins s I
  unfold evE at h
  refine UnaryOp_ (thn (ha n X W σ H r st α G _ S (h.bind (Ext.refl _ _) fun _ g => g) pins s I) fun u s1 ⟨x, H1, I1, ru, v, st1, α1, os1, p1, h1⟩ => ?_)
  obtain ⟨o, d, e, q⟩ := h1.ofD
  obtain ⟨c, hc, e2⟩ := Option.map_eq_some_iff.mp e
  cases e2
  refine not_of (thn (tru_rep (Q := fun c' H' => c' = c ∧ H' = H1) hc p1.rep I1 ru ⟨rfl, rfl⟩) fun c' s2 ⟨H2, I2, e1, e2⟩ => ?_)
  subst e1 e2
  exact ⟨.bl (!c'), H2, I2, rfl, q _ _ _ _ ((Post.bl p1.ws).from p1.ext fun _ g => g)⟩
theorem impl_if {t a b : Expr} {t' a' b' : Ex} {pos : Pos} (ht : ImplT T N sc t t') (ha : ImplE T N sc a a') (hb : ImplE T N sc b b') : ImplE T N sc (.IfExp t a b pos) (.ifE t' a' b') := by
  intro n X W σ H r st α G Q S h
  unfold evE at h
  refine wE.of (pe_ifExp pt_w pe_w pe_w) ?_
  refine wT.mono (ht n X W σ H r st α G _ S (h.bindT (Ext.refl _ _) (fun _ g => g) (a := fun st => evE (T.P.env n) a' r st) (b := fun st => evE (T.P.env n) b' r st) fun v st => rfl)) fun c H1 ⟨st1, α1, e1, w1, h1⟩ => ?_
  cases c with
  | true => exact ha n X W σ H1 r st1 α1 G Q (S.keep e1 w1) (h1.from e1 fun _ g => g)
  | false => exact hb n X W σ H1 r st1 α1 G Q (S.keep e1 w1) (h1.from e1 fun _ g => g)
end
end PD
/-! DEx3: displays, subscripts, slices -/
namespace PD
open PySem PySem.Spec PyProof.Rows L2
section
variable {T : Tab} {N : List Str} {sc : Scope}

/-! ### argument lists -/
def noStar : Expr → Bool
  | .Starred _ _ => false
  | _ => true
theorem star_of {e : Expr} (h : noStar e = true) (es : List Expr) (env : PySem.Env) : starEach (e :: es) env = (false, eval e env) :: starEach es env := by
  cases e <;> first | rfl | cases h
theorem plain_of {env : PySem.Env} {pos : Pos} : ∀ {es : List Expr}, es.all noStar = true → (backTo pos (starEach es env)).any (·.1) = false
  | [], _ => rfl
  | e :: es, h => by
    rw [List.all_cons, Bool.and_eq_true] at h
    rw [star_of h.1]
    show (false || (backTo pos (starEach es env)).any (·.1)) = false
    rw [plain_of h.2]; rfl
def Exs.len : Exs → Nat
  | .nil => 0
  | .cons _ es => es.len + 1
theorem evEs_len {env : Env} : ∀ {es : Exs} {r : Rho} {st : Store} {v : Bool × List D} {st' : Store}, evEs env es r st = .ok v st' → v.2.length = es.len
  | .nil, r, st, v, st', h => by
    unfold evEs at h
    cases h
    rfl
  | .cons e es, r, st, v, st', h => by
    unfold evEs at h
    cases h1 : evE env e r st with
    | ok x s1 =>
      rw [h1] at h
      have h : (evEs env es r s1).bind (fun xs st => .ok (x.1 == .all && xs.1, x.2 :: xs.2) st) = .ok v st' := h
      cases h2 : evEs env es r s1 with
      | ok y s2 =>
        rw [h2] at h
        have h : R.ok (x.1 == .all && y.1, x.2 :: y.2) s2 = .ok v st' := h
        cases h
        show (x.2 :: y.2).length = _
        rw [List.length_cons, evEs_len h2]; rfl
      | exc c ds s2 => rw [h2] at h; cases h
      | no => rw [h2] at h; cases h
    | exc c ds s1 => rw [h1] at h; cases h
    | no => rw [h1] at h; cases h
theorem impl_nil : ImplL T N sc [] .nil := by
  intro n X W σ H r st α G Q S h
  unfold evEs at h
  exact wL.of pa_nil (h [] H α [] ⟨Ext.refl _ _, S.ws, by unfold RepL; exact ⟨rfl, rfl⟩, fun _ z => (by cases z), List.nodup_nil⟩)
theorem own_or (o : Own) : (o == Own.all) = true → o = .all := fun h => by cases o <;> first | rfl | cases h
theorem impl_cons {e : Expr} {es : List Expr} {e' : Ex} {es' : Exs} (hs : noStar e = true) (he : ImplE T N sc e e') (hr : ImplL T N sc es es') : ImplL T N sc (e :: es) (.cons e' es') := by
  intro n X W σ H r st α G Q S h
  unfold evEs at h
  refine wL.of (pa_cons pe_w pa_w (star_of hs es X.env)) ?_
  refine wE.mono (he n X W σ H r st α G _ S (h.bindE (Ext.refl _ _) fun _ g => g)) fun x H1 ⟨v, st1, α1, os1, p1, h1⟩ => ?_
  have S1 := S.own p1.ext p1.ws p1.fr p1.tr
  refine wL.mono (hr n X W σ H1 r st1 α1 _ _ S1 (h1.bindL p1.ext fun _ g => g.1)) fun xs H2 ⟨w, st2, α2, os2, p2, h2⟩ => ?_
  have apart : ∀ a ∈ os1, a ∉ os2 := fun a h1 h2 => by
    obtain ⟨u, hu⟩ := p1.tr a h1
    rw [p2.fr a h2] at hu; cases hu
  cases hb : (v.1 == .all && w.1) with
  | true =>
    rw [hb] at h2
    rw [Bool.and_eq_true] at hb
    have e1 := own_or _ hb.1
    refine h2 (x :: xs) H2 α2 (os1 ++ os2) ⟨p1.ext.trans p2.ext, p2.ws, ?_, fun a ha => ?_, ?_⟩
    · show RepL X.K T.CT α2 (Gm G (os1 ++ os2)) H2 (v.2 :: w.2) .all (x :: xs) (os1 ++ os2)
      unfold RepL
      have r1 := p1.rep
      rw [e1] at r1
      have r2 := p2.rep
      rw [hb.2] at r2
      refine ⟨x, xs, os1, os2, rfl, rfl, Rep.ext p2.ext (fun a g ⟨u, hu⟩ => ⟨g.1, fun z => ?_⟩) _ r1, RepL.ext (Ext.refl _ _) (fun a g _ => ⟨g.1.1, fun z => ?_⟩) _ r2⟩
      · rcases List.mem_append.mp z with z | z
        · exact g.2 z
        · rw [p2.fr a z] at hu; cases hu
      · rcases List.mem_append.mp z with z | z
        · exact g.1.2 z
        · exact g.2 z
    · rcases List.mem_append.mp ha with z | z
      · exact p1.fr a z
      · exact p1.ext.fresh (p2.fr a z)
    · exact List.nodup_append.mpr ⟨p1.nd, p2.nd, fun a ha b hb z => apart a ha (z ▸ hb)⟩
  | false =>
    rw [hb] at h2
    refine h2 (x :: xs) H2 α2 [] ⟨p1.ext.trans p2.ext, p2.ws, ?_, fun _ z => (by cases z), List.nodup_nil⟩
    show RepL X.K T.CT α2 (Gm G []) H2 (v.2 :: w.2) .no (x :: xs) []
    unfold RepL
    exact ⟨x, xs, [], [], rfl, rfl, Rep.ext p2.ext (fun a g _ => ⟨g, by simp⟩) _ (p1.shared S.gf), RepL.ext (Ext.refl _ _) (fun a g _ => ⟨g.1, by simp⟩) _ (p2.shared S1.gf)⟩

/-! ### displays -/
theorem small_len {n : Nat} (h : n ≤ 1000) : n ≤ sizeLine := by rw [szl]; omega
theorem impl_lst {es : List Expr} {es' : Exs} {pos : Pos} (h : ImplL T N sc es es') (hl : es'.len ≤ 1000) : ImplE T N sc (.List es pos) (.lst es') := by
  intro n X W σ H r st α G Q S hs
  unfold evE at hs
  refine wE.of (pe_lst pa_w) ?_
  refine wL.mono (h n X W σ H r st α G _ S (hs.bindL (Ext.refl _ _) fun _ g => g)) fun xs H1 ⟨v, st1, α1, os1, p1, h1, e1⟩ => ?_
  refine ⟨by rw [p1.rep.len, evEs_len e1]; exact small_len hl, fun p hp => ?_⟩
  have S1 := S.keep p1.ext p1.ws
  have ex := p1.ext.trans (Ext.new (α := α1) (o := .lst xs) hp)
  have npo : p ∉ os1 := fun z => by
    obtain ⟨u, hu⟩ := p1.tr p z
    rw [hp] at hu; cases hu
  cases hb : v.1 with
  | true =>
    rw [hb] at h1
    refine h1 (.ref p) _ α1 (p :: os1) ⟨ex, p1.ws.new hp, ?_, fun a ha => ?_, List.nodup_cons.mpr ⟨npo, p1.nd⟩⟩
    · show Rep X.K T.CT α1 (Gm G (p :: os1)) _ (.lst v.2) .all (.ref p) (p :: os1)
      unfold Rep
      have r1 := p1.rep
      rw [hb] at r1
      refine ⟨p, xs, os1, rfl, p1.ws.out hp, RepL.ext (Ext.new hp) (fun a g ⟨u, hu⟩ => ⟨g.1, fun z => ?_⟩) _ r1, by rw [if_neg (by decide)]; exact ⟨upd_same, rfl⟩⟩
      rcases List.mem_cons.mp z with z | z
      · rw [z, hp] at hu; cases hu
      · exact g.2 z
    · rcases List.mem_cons.mp ha with z | z
      · rw [z]; exact p1.ext.fresh hp
      · exact p1.fr a z
  | false =>
    rw [hb] at h1
    refine h1 (.ref p) _ α1 [p] ⟨ex, p1.ws.new hp, ?_, fun a ha => ?_, by simp⟩
    · show Rep X.K T.CT α1 (Gm G [p]) _ (.lst v.2) .top (.ref p) [p]
      unfold Rep
      refine ⟨p, xs, [], rfl, p1.ws.out hp, RepL.ext (Ext.new hp) (fun a g ⟨u, hu⟩ => ⟨g, fun z => ?_⟩) _ (p1.shared S.gf), by rw [if_neg (by decide)]; exact ⟨upd_same, rfl⟩⟩
      rw [List.mem_singleton.mp z, hp] at hu; cases hu
    · rw [List.mem_singleton.mp ha]; exact p1.ext.fresh hp
theorem impl_tup {es : List Expr} {es' : Exs} {k : Nat} {pos : Pos} (h : ImplL T N sc es es') (hl : es'.len ≤ 1000) : ImplE T N sc (.Tuple es k pos) (.tup es') := by
  intro n X W σ H r st α G Q S hs
  unfold evE at hs
  refine wE.of (pe_tup pa_w) ?_
  refine wL.mono (h n X W σ H r st α G _ S (hs.bindL (Ext.refl _ _) fun _ g => g)) fun xs H1 ⟨v, st1, α1, os1, p1, h1, e1⟩ => ?_
  refine ⟨by rw [p1.rep.len, evEs_len e1]; exact small_len hl, fun p hp => ?_⟩
  have S1 := S.keep p1.ext p1.ws
  cases hb : v.1 with
  | true =>
    rw [hb] at h1
    refine h1 (.ref p) _ α1 os1 ⟨p1.ext.trans (Ext.new hp), p1.ws.new hp, ?_, p1.fr, p1.nd⟩
    show Rep X.K T.CT α1 (Gm G os1) _ (.tup v.2) .all (.ref p) os1
    unfold Rep
    have r1 := p1.rep
    rw [hb] at r1
    exact ⟨p, xs, rfl, .inl ⟨.inl upd_same, p1.ws.out hp⟩, RepL.ext (Ext.new hp) (fun a g _ => g) _ r1⟩
  | false =>
    rw [hb] at h1
    exact h1 (.ref p) _ α1 [] ((Post.newT p1.ws S1.gf hp (p1.shared S.gf)).from p1.ext fun _ g => g)

/-! ### subscripts -/
def wIx (X : Cx) : R2 := fun x y H Q => ∀ (value slice : Expr) (pins : List (Addr × Obj)) (s : Shared) (σ : L2.St) (v u : Value), Inv X pins σ H s → RelV x v → RelV y u →
    subscripted slice false v u = operate [v, u] (getItem v u) → wpAny (model X.prog X.w) X.A (subscriptTail value slice v u) (EP X pins σ Q) X.xe s
theorem ix_w {X : Cx} : IxR X (wIx X) := fun value slice pins s σ _ _ _ v u _ I rx ry h hs => h value slice pins s σ v u I rx ry hs
theorem wIx.of {X : Cx} {r : R2} (h : IxR X r) {x y : V} {H : Hp} {Q : VK} (q : r x y H Q) : wIx X x y H Q := fun value slice pins s σ v u I rx ry hs => h value slice pins s σ H x y v u Q I rx ry q hs
theorem place_ix {n j : Nat} {i : Int} (h : place i n = some j) : ixN n i = some j := by
  unfold place at h
  unfold ixN
  split at h
  · rename_i h0
    rw [if_pos h0]
    split at h
    · cases h
      rw [if_pos (by omega)]
    · cases h
  · rename_i h0
    rw [if_neg h0]
    split at h
    · cases h
      rw [if_pos (by omega)]
      congr 1
      omega
    · cases h
theorem place_at {α : Type} {xs : List α} {n j : Nat} {i : Int} {x : α} (h : place i n = some j) (hn : xs.length = n) (hx : xs[j]? = some x) : atI xs i = some x := by
  unfold atI
  rw [hn, place_ix h]
  exact hx
theorem ix_dic {X : Cx} (hu : X.A.units + 64 < cLine) {a : Addr} {kvs : List (Key × V)} {k : Key} {v : V} {H : Hp} {Q : VK} (ha : Rd H a (.dK kvs)) (hv : valV kvs k = some v) (q : Q v H) : wIx X (.ref a) (kV k) H Q := by
  intro value slice pins s σ w u I rx ry hs
  obtain rfl : w = .ref a := rx
  have g : DGet H a (kV k) (some v) := .inl ⟨kvs, k, ha, rfl, hv.symm⟩
  exact tail_any (dict_typeIs I g) PySem.F.slot_dict_getitem.lookup (d_getItem (by omega) I g ry fun w' s' I' r' => ⟨v, H, I', r', q⟩) hs
variable {X : Cx} {CT : CTab}
theorem gm_sub {G : Addr → Prop} {os os' : List Addr} (h : os'.Sublist os) : ∀ a, Gm G os a → Gm G os' a := fun a g => ⟨g.1, fun z => g.2 (h.subset z)⟩
theorem rep_own {α : List Addr} {G : Addr → Prop} {H : Hp} {d : D} {o : Own} {v : V} {os os' : List Addr} (hs : os'.Sublist os) (r : Rep X.K CT α (Gm G os) H d o v os') :
    ∃ os2, os2.Sublist os ∧ Rep X.K CT α (Gm G os2) H d (if flat d then .all else o) v os2 := by
  have r' := Rep.ext (G' := Gm G os') (Ext.refl _ _) (fun a g _ => gm_sub hs a g) d r
  split
  · rename_i f
    exact ⟨[], List.nil_sublist _, (Rep.flat d f r').2⟩
  · exact ⟨os', hs, r'⟩
theorem sub_ok (hu : X.A.units + 64 < cLine) {st : Store} {o o' : Own} {dx dy d : D} (h : subD st o dx dy = some (o', d)) {α : List Addr} {G G' : Addr → Prop} {H : Hp} {vx vy : V} {os : List Addr} (w : WS α st H) (hx : Rep X.K CT α (Gm G os) H dx o vx os) (hy : Rep X.K CT α G' H dy .no vy [])
    {Q : VK} (k : ∀ v os2, os2.Sublist os → Rep X.K CT α (Gm G os2) H d o' v os2 → Q v H) : wIx X vx vy H Q := by
  unfold subD at h
  split at h
  · -- a list
    obtain ⟨n, hn, h⟩ := Option.bind_eq_some_iff.mp h
    obtain ⟨d', hd, e⟩ := Option.map_eq_some_iff.mp h
    cases e
    rw [rep_int hy]
    unfold Rep at hx
    obtain ⟨a, vs, os', rfl, na, rx, ha⟩ := hx
    obtain ⟨v, os2, h1, h2, h3⟩ := RepL.ix rx hd
    have hs : os2.Sublist os := by
      split at ha
      · rw [ha.2.2]; exact h2
      · rw [ha.2]; exact h2.trans (List.sublist_cons_self _ _)
    have ha' : H a = some (.lst vs) := by split at ha <;> first | exact ha.2.1 | exact ha.1
    obtain ⟨os3, k1, k2⟩ := rep_own hs h3
    exact wIx.of ix_list ⟨a, vs, _, v, rfl, rfl, .inl (.inl ha'), place_at hn rx.len h1, k v os3 k1 k2⟩
  · obtain ⟨n, hn, h⟩ := Option.bind_eq_some_iff.mp h
    obtain ⟨d', hd, e⟩ := Option.map_eq_some_iff.mp h
    cases e
    rw [rep_int hy]
    unfold Rep at hx
    obtain ⟨a, vs, rfl, ha, rx⟩ := hx
    obtain ⟨v, os2, h1, h2, h3⟩ := RepL.ix rx hd
    obtain ⟨os3, k1, k2⟩ := rep_own h2 h3
    exact wIx.of ix_tup ⟨a, vs, _, v, rfl, rfl, ha.sqT, place_at hn rx.len h1, k v os3 k1 k2⟩
  · split at h
    · rename_i hz
      obtain ⟨n, hn, h⟩ := Option.bind_eq_some_iff.mp h
      obtain ⟨c, hd, e⟩ := Option.map_eq_some_iff.mp h
      cases e
      rw [rep_int hy, rep_str hx]
      refine wIx.of ix_str ⟨_, _, c, rfl, rfl, by rw [toStr_len]; exact maxLen_le hz, by rw [toStr_list]; exact place_at hn rfl hd, ?_⟩
      exact k (.str (toStr [c])) [] (List.nil_sublist _) (by unfold Rep; exact ⟨rfl, rfl⟩)
    · cases h
  · obtain ⟨d', hd, e⟩ := Option.map_eq_some_iff.mp h
    cases e
    rw [rep_int hy]
    unfold Rep at hx
    obtain ⟨a, kvs, os', rfl, na, hk, rx, ha⟩ := hx
    obtain ⟨v, os2, h1, h3, h2⟩ := (look_rep (k := .int _) rfl hk rx).1 _ hd
    have hs : os2.Sublist os := by
      split at ha
      · rw [ha.2.2]; exact h2
      · rw [ha.2]; exact h2.trans (List.sublist_cons_self _ _)
    have ha' : Rd H a (.dK kvs) := by split at ha <;> first | exact ha.2.1 | exact .inl ha.1
    obtain ⟨os3, k1, k2⟩ := rep_own hs h3
    exact ix_dic hu ha' h1 (k v os3 k1 k2)
  · obtain ⟨d', hd, e⟩ := Option.map_eq_some_iff.mp h
    cases e
    rw [rep_str hy]
    unfold Rep at hx
    obtain ⟨a, kvs, os', rfl, na, hk, rx, ha⟩ := hx
    obtain ⟨v, os2, h1, h3, h2⟩ := (look_rep (k := .str _) rfl hk rx).1 _ hd
    have hs : os2.Sublist os := by
      split at ha
      · rw [ha.2.2]; exact h2
      · rw [ha.2]; exact h2.trans (List.sublist_cons_self _ _)
    have ha' : Rd H a (.dK kvs) := by split at ha <;> first | exact ha.2.1 | exact .inl ha.1
    obtain ⟨os3, k1, k2⟩ := rep_own hs h3
    exact ix_dic hu ha' h1 (k v os3 k1 k2)
  · obtain ⟨n, hn, h⟩ := Option.bind_eq_some_iff.mp h
    obtain ⟨c, hd, e⟩ := Option.map_eq_some_iff.mp h
    cases e
    rw [rep_int hy]
    unfold Rep at hx
    obtain ⟨⟨a, rfl, ha⟩, _⟩ := hx
    refine wIx.of ix_list ⟨a, _, _, .int c, rfl, rfl, ha.sqL, place_at hn (by simp) (by rw [List.getElem?_map, hd]; rfl), ?_⟩
    exact k (.int c) [] (List.nil_sublist _) (by unfold Rep; exact ⟨rfl, rfl⟩)
  · split at h
    · rename_i xs hxs
      obtain ⟨n, hn, h⟩ := Option.bind_eq_some_iff.mp h
      obtain ⟨c, hd, e⟩ := Option.map_eq_some_iff.mp h
      cases e
      rw [rep_int hy]
      unfold Rep at hx
      obtain ⟨⟨a, ha, rfl⟩, _⟩ := hx
      obtain ⟨ys, h1, h2⟩ := w.at_ _ _ ha
      rw [hxs] at h1
      cases h1
      refine wIx.of ix_list ⟨a, _, _, .int c, rfl, rfl, .inl (.inl h2), place_at hn (by simp) (by rw [List.getElem?_map, hd]; rfl), ?_⟩
      exact k (.int c) [] (List.nil_sublist _) (by unfold Rep; exact ⟨rfl, rfl⟩)
    · cases h
  · cases h
/-- what may stand as an index -/
def plainIx : Expr → Bool
  | .Slice _ _ _ _ => false
  | _ => true
theorem plainIx_by {e : Expr} (h : plainIx e = true) : PlainIx e := by
  intro o i
  cases e <;> first | rfl | cases h
theorem impl_sub {a b : Expr} {a' b' : Ex} {pos : Pos} (ha : ImplE T N sc a a') (hb : ImplE T N sc b b') (hp : plainIx b = true) : ImplE T N sc (.Subscript a b pos) (.sub a' b') := by
  intro n X W σ H r st α G Q S h
  unfold evE at h
  refine wE.of (pe_ix ix_w pe_w pe_w (plainIx_by hp)) ?_
  refine wE.mono (ha n X W σ H r st α G _ S (h.bind (Ext.refl _ _) fun _ g => g)) fun x H1 ⟨v, st1, α1, os1, p1, h1⟩ => ?_
  have S1 := S.own p1.ext p1.ws p1.fr p1.tr
  refine wE.mono (hb n X W σ H1 r st1 α1 _ _ S1 (h1.bind p1.ext fun _ g => g.1)) fun y H2 ⟨w, st2, α2, os2, p2, h2⟩ => ?_
  obtain ⟨o, d, e, q⟩ := h2.ofD
  refine sub_ok S.ok.hu (G := G) e p2.ws (Rep.ext p2.ext (fun _ g _ => g) _ p1.rep) (p2.shared S1.gf) fun z os3 hs rz => ?_
  exact q z H2 α2 os3 ⟨p1.ext.trans p2.ext, p2.ws, rz, fun a ha => p1.fr a (hs.subset ha), p1.nd.sublist hs⟩

/-! ### slices -/
def wO (X : Cx) (e : Option Expr) : L2.TO := fun σ H Q => ∀ pins s, Inv X pins σ H s → wpAny (model X.prog X.w) X.A (evalPart e X.env) (fun u s' => ∃ o H', Inv X pins σ H' s' ∧ IsPart u o ∧ Q o H') X.xe s
theorem po_w {X : Cx} {e : Option Expr} : PO X e (wO X e) := ⟨fun pins s _ _ _ I h => h pins s I⟩
/-- a part's value -/
def partD : D → Option Int → Prop
  | .non, o => o = none
  | .int i, o => o = some i
  | _, _ => False
def partV (x : V) (p : Option Int) : Prop := (x = .non ∧ p = none) ∨ ∃ i, x = .int i ∧ p = some i
def ImplO (T : Tab) (N : List Str) (sc : Scope) (e : Option Expr) (e' : Ex) : Prop := ∀ (n : Nat) (X : Cx) (W : WX) (σ : L2.St) (H : Hp) (r : Rho) (st : Store) (α : List Addr) (G : Addr → Prop) (Q : V → Hp → Prop) (Q' : Option Int → Hp → Prop),
  Sit T n N sc X W r σ α H G st → SatE X.K T.CT W σ α H G Q (evE (T.P.env n) e' r st) → (∀ x H', Q x H' → ∃ p, partV x p ∧ Q' p H') → wO X e σ H Q'
theorem impl_partN : ImplO T N sc none (.lit .non) := by
  intro n X W σ H r st α G Q Q' S h k pins s I
  unfold evE at h
  obtain ⟨p, pv, q⟩ := k _ _ (h _ _ _ _ (.non S.ws))
  rcases pv with ⟨_, rfl⟩ | ⟨i, z, _⟩
  · exact po_none.run pins s σ H Q' I q
  · cases z
theorem impl_part {e : Expr} {e' : Ex} (he : ImplE T N sc e e') : ImplO T N sc (some e) e' := by
  intro n X W σ H r st α G Q Q' S h k pins s I
  rw [evalPart_some]
  refine thn (he n X W σ H r st α G Q S h pins s I) fun u s1 ⟨x, H1, I1, r1, q1⟩ => ?_
  obtain ⟨p, pv, q⟩ := k _ _ q1
  rcases pv with ⟨rfl, rfl⟩ | ⟨i, rfl, rfl⟩
  · obtain rfl : u = Value.none := r1
    exact ⟨none, H1, I1, .none, q⟩
  · obtain ⟨t, rfl⟩ := r1
    exact ⟨some i, H1, I1, .int i t, q⟩
theorem part_of {K : PySem.W.Frag} {CT : CTab} {α : List Addr} {G : Addr → Prop} {H : Hp} {d : D} {o : Own} {x : V} {os : List Addr} (h : partOk d = true) (r : Rep K CT α G H d o x os) : ∃ p, partV x p ∧ partD d p := by
  cases d <;> first | cases h | skip
  · unfold Rep at r
    exact ⟨none, .inl ⟨r.1, rfl⟩, rfl⟩
  · unfold Rep at r
    exact ⟨some _, .inr ⟨_, r.1, rfl⟩, rfl⟩
theorem bnd_part {d : D} {n k b : Nat} (h : bnd d n k = some b) : ∃ p, partD d p ∧ HT.sIx n k p = b := by
  unfold bnd at h
  split at h
  · cases h
    exact ⟨none, rfl, rfl⟩
  · cases h
    rename_i i
    refine ⟨some i, rfl, ?_⟩
    show (if i < 0 then (i + (n : Int)).toNat else min i.toNat n) = _
    by_cases h0 : 0 ≤ i
    · rw [if_neg (by omega), if_pos h0]
    · rw [if_pos (by omega), if_neg h0]
      omega
  · cases h
theorem partD_one {d : D} {p q : Option Int} (h : partD d p) (h' : partD d q) : p = q := by
  cases d <;> first | exact (show False from h).elim | (have h : p = _ := h; have h' : q = _ := h'; rw [h, h'])
def wSl (X : Cx) : V → Option Int → Option Int → Hp → VK → Prop := fun x lo hi H Q => ∀ (pins : List (Addr × Obj)) (s : Shared) (σ : L2.St) (v vl vu : Value) (sl : Addr), Inv X pins σ H s → RelV x v → s.heap.IsSliceOf sl vl vu .none → IsPart vl lo → IsPart vu hi →
    ∃ T id, typeLookup (.type T) "__getitem__" = pure (some (.builtin id)) ∧ s.TypeIs v T ∧ wpAny (model X.prog X.w) X.A (getItem v (.ref sl)) (EP X pins σ Q) X.xe s
theorem sl_w {X : Cx} : L2.SlR X (wSl X) := fun pins s σ _ _ v vl vu _ _ sl _ I rx hs pl pu h => h pins s σ v vl vu sl I rx hs pl pu
theorem wSl.of {X : Cx} {r : V → Option Int → Option Int → Hp → VK → Prop} (h : L2.SlR X r) {x : V} {lo hi : Option Int} {H : Hp} {Q : VK} (q : r x lo hi H Q) : wSl X x lo hi H Q := fun pins s σ v vl vu sl I rx hs pl pu => h pins s σ H x v vl vu lo hi sl Q I rx hs pl pu q
theorem cut_eq {β : Type} (xs : List β) (a b : Nat) : (xs.drop a).take (b - a) = cut xs a b := by
  unfold cut
  rw [List.drop_take]
theorem RepL.cut {K : PySem.W.Frag} {α : List Addr} {G : Addr → Prop} {H : Hp} : ∀ {ds : List D} {vs : List V} (a b : Nat), RepL K CT α G H ds .no vs [] → RepL K CT α G H (cut ds a b) .no (cut vs a b) [] := by
  intro a b h
  unfold PD.cut
  exact dr a (tk b h)
where
  tk : ∀ {ds : List D} {vs : List V} (b : Nat), RepL K CT α G H ds .no vs [] → RepL K CT α G H (ds.take b) .no (vs.take b) []
    | [], _, b, h => by
      unfold RepL at h
      rw [h.1]
      simp
      unfold RepL
      exact ⟨rfl, rfl⟩
    | d :: ds, _, 0, h => by
      simp
      unfold RepL
      exact ⟨rfl, rfl⟩
    | d :: ds, _, b + 1, h => by
      unfold RepL at h
      obtain ⟨v, r, os1, os2, h1, h2, h3, h4⟩ := h
      subst h1
      obtain ⟨rfl, rfl⟩ := List.append_eq_nil_iff.mp h2.symm
      rw [List.take_succ_cons, List.take_succ_cons]
      unfold RepL
      exact ⟨v, _, [], [], rfl, rfl, h3, tk b h4⟩
  dr : ∀ {ds : List D} {vs : List V} (b : Nat), RepL K CT α G H ds .no vs [] → RepL K CT α G H (ds.drop b) .no (vs.drop b) []
    | ds, _, 0, h => h
    | [], _, b + 1, h => by
      unfold RepL at h
      rw [h.1]
      simp
      unfold RepL
      exact ⟨rfl, rfl⟩
    | d :: ds, _, b + 1, h => by
      unfold RepL at h
      obtain ⟨v, r, os1, os2, h1, h2, h3, h4⟩ := h
      subst h1
      obtain ⟨rfl, rfl⟩ := List.append_eq_nil_iff.mp h2.symm
      exact dr b h4
theorem flatL_cut {xs : List D} (a b : Nat) (h : flatL xs = true) : flatL (cut xs a b) = true := by
  have all : ∀ {l : List D}, flatL l = true ↔ ∀ x ∈ l, flat x = true := by
    intro l
    induction l with
    | nil => simp [flatL]
    | cons x l ih => simp [flatL, ih]
  rw [all] at h ⊢
  exact fun x hx => h x (List.mem_of_mem_take (List.mem_of_mem_drop hx))
theorem flatL_rev {xs : List D} (h : flatL xs = true) : flatL xs.reverse = true := by
  have all : ∀ {l : List D}, flatL l = true ↔ ∀ x ∈ l, flat x = true := by
    intro l
    induction l with
    | nil => simp [flatL]
    | cons x l ih => simp [flatL, ih]
  rw [all] at h ⊢
  exact fun x hx => h x (List.mem_reverse.mp hx)
/-- a new list whose items stood already -/
theorem Post.newLo {K : PySem.W.Frag} {α : List Addr} {G : Addr → Prop} {H : Hp} {st : Store} {xs ds : List D} {vs : List V} {p : Addr} (hf : flatL xs = true → flatL ds = true) (w : WS α st H) (g : GF G H) (hp : H p = none) (h : RepL K CT α G H ds .no vs []) :
    Post K CT α H G st (newO xs) (.lst ds) (.ref p) (upd H p (.lst vs)) α [p] := by
  have b := Post.newL (st := st) w g hp h
  unfold newO at b ⊢
  by_cases f : flatL xs = true
  · rw [if_pos (hf f)] at b
    rw [if_pos f]
    exact b
  · rw [if_neg f]
    refine ⟨b.ext, b.ws, ?_, b.fr, b.nd⟩
    unfold Rep
    refine ⟨p, vs, [], rfl, w.out hp, RepL.ext (Ext.new hp) (fun a ga ⟨u, hu⟩ => ⟨ga, fun z => ?_⟩) ds h, by rw [if_neg (by decide)]; exact ⟨upd_same, rfl⟩⟩
    rw [List.mem_singleton.mp z, hp] at hu; cases hu
theorem RepL.ofInts {K : PySem.W.Frag} {α : List Addr} {G : Addr → Prop} {H : Hp} {o : Own} : ∀ (xs : List Int), RepL K CT α G H (xs.map .int) o (xs.map V.int) []
  | [] => by
    simp
    unfold RepL
    exact ⟨rfl, rfl⟩
  | x :: xs => by
    rw [List.map_cons, List.map_cons]
    unfold RepL
    exact ⟨_, _, [], [], rfl, rfl, by unfold Rep; exact ⟨rfl, rfl⟩, RepL.ofInts xs⟩
theorem flatL_ints : ∀ (xs : List Int), flatL (xs.map .int) = true
  | [] => rfl
  | x :: xs => by
    rw [List.map_cons]
    show (flat (.int x) && flatL _) = true
    rw [flatL_ints xs]; rfl
theorem cut_map {β γ : Type} (f : β → γ) (xs : List β) (a b : Nat) : cut (xs.map f) a b = (cut xs a b).map f := by
  unfold cut
  rw [List.map_drop, List.map_take]
theorem slc_ok {dx dl dh d : D} {o : Own} (h : slcD dx dl dh = some (o, d)) {α : List Addr} {G : Addr → Prop} {H : Hp} {st : Store} {vx : V} (w : WS α st H) (g : GF G H) (hx : Rep X.K CT α G H dx .no vx []) {Q : VK}
    (k : ∀ v H' os, Post X.K CT α H G st o d v H' α os → Q v H') : (∃ p, partD dh p) ∧ ∀ lo hi, partD dl lo → partD dh hi → wSl X vx lo hi H Q := by
  have fin : ∀ {n : Nat} {F : Nat → Nat → VD}, (bnd dl n 0).bind (fun a => (bnd dh n n).map fun b => F a b) = some (o, d) → ∃ a b p q, partD dl p ∧ partD dh q ∧ HT.sIx n 0 p = a ∧ HT.sIx n n q = b ∧ F a b = (o, d) := by
    intro n F h
    obtain ⟨a, ha, h⟩ := Option.bind_eq_some_iff.mp h
    obtain ⟨b, hb, h⟩ := Option.map_eq_some_iff.mp h
    obtain ⟨p, hp, e1⟩ := bnd_part ha
    obtain ⟨q, hq, e2⟩ := bnd_part hb
    exact ⟨a, b, p, q, hp, hq, e1, e2, h⟩
  unfold slcD at h
  split at h
  · rename_i xs
    obtain ⟨a, b, p, q, hp, hq, e1, e2, h⟩ := fin (F := fun a b => (newO xs, .lst (cut xs a b))) h
    cases h
    refine ⟨⟨_, hq⟩, fun lo hi h1 h2 => ?_⟩
    obtain rfl := partD_one h1 hp
    obtain rfl := partD_one h2 hq
    obtain ⟨a', vs, rfl, ha, rx, _⟩ := lst_of hx
    have l := rx.len
    refine wSl.of sl_list ⟨a', vs, rfl, .inl (.inl ha), fun p' hp' => ?_⟩
    have e : cutV vs lo hi = cut vs a b := by
      unfold cutV
      rw [l, e1, e2, cut_eq]
    rw [e]
    exact k _ _ [p'] (Post.newLo (flatL_cut a b) w g hp' (rx.cut a b))
  · rename_i xs
    obtain ⟨a, b, p, q, hp, hq, e1, e2, h⟩ := fin (F := fun a b => (Own.all, .lst ((cut xs a b).map .int))) h
    cases h
    refine ⟨⟨_, hq⟩, fun lo hi h1 h2 => ?_⟩
    obtain rfl := partD_one h1 hp
    obtain rfl := partD_one h2 hq
    unfold Rep at hx
    obtain ⟨⟨a', rfl, ha⟩, _⟩ := hx
    refine wSl.of sl_list ⟨a', _, rfl, ha.sqL, fun p' hp' => ?_⟩
    have e : cutV (xs.map V.int) lo hi = (cut xs a b).map V.int := by
      unfold cutV
      rw [List.length_map, e1, e2, cut_eq, cut_map]
    rw [e]
    have z := Post.newL (K := X.K) (CT := CT) (st := st) w g hp' (RepL.ofInts (cut xs a b))
    unfold newO at z
    rw [if_pos (flatL_ints _)] at z
    exact k _ _ [p'] z
  · rename_i s
    split at h
    · rename_i hz
      obtain ⟨a, b, p, q, hp, hq, e1, e2, h⟩ := fin (F := fun a b => (Own.all, .str (cut s a b))) h
      cases h
      refine ⟨⟨_, hq⟩, fun lo hi h1 h2 => ?_⟩
      obtain rfl := partD_one h1 hp
      obtain rfl := partD_one h2 hq
      rw [rep_str hx]
      refine wSl.of sl_str ⟨_, rfl, by rw [toStr_len]; exact maxLen_le hz, ?_⟩
      have e : cutS (toStr s) lo hi = toStr (cut s a b) := by
        unfold cutS
        rw [toStr_len, e1, e2, toStr_list, cut_eq]
        rfl
      rw [e]
      exact k _ _ _ (.str w)
    · cases h
  · cases h
theorem impl_slc {a : Expr} {lo hi : Option Expr} {a' l' h' : Ex} {p2 pos : Pos} (ha : ImplE T N sc a a') (hl : ImplO T N sc lo l') (hh : ImplO T N sc hi h') : ImplE T N sc (.Subscript a (.Slice lo hi none p2) pos) (.slc a' l' h') := by
  intro n X W σ H r st α G Q S h
  unfold evE at h
  refine wE.of (pe_slice sl_w pe_w po_w po_w) ?_
  refine wE.mono (ha n X W σ H r st α G _ S (h.bind (Ext.refl _ _) fun _ g => g)) fun x H1 ⟨v, st1, α1, os1, p1, h1⟩ => ?_
  have S1 := S.keep p1.ext p1.ws
  refine hl n X W σ H1 r st1 α1 G _ _ S1 (h1.bind p1.ext fun _ g => g) fun y H2 ⟨w, st2, α2, os2, p2, h2⟩ => ?_
  split at h2
  · rename_i hp
    obtain ⟨p, pv, pd⟩ := part_of hp p2.rep
    refine ⟨p, pv, ?_⟩
    have S2 := S1.keep p2.ext p2.ws
    refine hh n X W σ H2 r st2 α2 G _ _ S2 (h2.bind (p1.ext.trans p2.ext) fun _ g => g) fun z H3 ⟨u, st3, α3, os3, p3, h3⟩ => ?_
    obtain ⟨o, d, e, q⟩ := h3.ofD
    have S3 := S2.keep p3.ext p3.ws
    obtain ⟨⟨p', pd'⟩, key⟩ := slc_ok e S3.ws S3.gf (Rep.ext (p2.ext.trans p3.ext) (fun _ g _ => g) _ (p1.shared S.gf)) fun z H' os pz => q z H' α3 os (pz.from ((p1.ext.trans p2.ext).trans p3.ext) fun _ g => g)
    refine ⟨p', ?_, key p p' pd pd'⟩
    have rz := p3.rep
    cases hu : u.2 with
    | non =>
      rw [hu] at rz pd'
      unfold Rep at rz
      exact .inl ⟨rz.1, pd'⟩
    | int i =>
      rw [hu] at rz pd'
      unfold Rep at rz
      exact .inr ⟨i, rz.1, pd'⟩
    | _ => rw [hu] at pd'; exact (show False from pd').elim
  · exact h2.elim
/-! ### xs[::-1] -/
theorem RepL.rev {K : PySem.W.Frag} {α : List Addr} {G : Addr → Prop} {H : Hp} : ∀ {ds : List D} {vs : List V}, RepL K CT α G H ds .no vs [] → RepL K CT α G H ds.reverse .no vs.reverse []
  | [], _, h => by
    unfold RepL at h
    rw [h.1]
    simp
    unfold RepL
    exact ⟨rfl, rfl⟩
  | d :: ds, _, h => by
    unfold RepL at h
    obtain ⟨v, r, os1, os2, h1, h2, h3, h4⟩ := h
    subst h1
    obtain ⟨rfl, rfl⟩ := List.append_eq_nil_iff.mp h2.symm
    rw [List.reverse_cons, List.reverse_cons]
    have one : RepL K CT α G H [d] .no [v] [] := by
      unfold RepL
      exact ⟨v, [], [], [], rfl, rfl, h3, by unfold RepL; exact ⟨rfl, rfl⟩⟩
    exact (RepL.rev h4).append one
theorem str_rev (s : List Nat) : (⟨((Builtin.Str.strSliceIndices none none (-1) s.length).filterMap ((toStr s).cps[·]?)).toArray⟩ : Str) = toStr s.reverse := by
  show (⟨((sliceRange ((s.length : Int) - 1) (-1) (-1)).filterMap (s.toArray[·]?)).toArray⟩ : Str) = ⟨s.reverse.toArray⟩
  have e : ∀ i : Nat, s.toArray[i]? = s[i]? := fun i => by simp
  simp only [e]
  rw [PySem.W.krv_sliceRange, PySem.W.krv_range, List.filterMap_reverse]
  have z : (List.range s.length).filterMap (s[·]?) = s := by
    clear e
    induction s with
    | nil => rfl
    | cons c s ih =>
      rw [List.length_cons, List.range_succ_eq_map, List.filterMap_cons]
      show c :: List.filterMap (fun x => (c :: s)[x]?) (List.map Nat.succ (List.range s.length)) = _
      rw [List.filterMap_map]
      congr 1
  rw [z]
theorem impl_rev {a : Expr} {a' : Ex} {k : Nat} {p1 p2 p3 pos : Pos} (ha : ImplE T N sc a a') : ImplE T N sc (.Subscript a (.Slice none none (some (.UnaryOp .USub (.Constant (.int 1) k p1) p2)) p3) pos) (.rev a') := by
  intro n X W σ H r st α G Q S h
  unfold evE at h
  have h0 := ha n X W σ H r st α G _ S (h.bind (Ext.refl _ _) fun _ g => g)
  intro pins s I
  refine Subscript_ (thn (h0 pins s I) fun v s1 ⟨x, H1, I1, r1, w, st1, α1, os1, q1, h1⟩ => ?_)
  have S1 := S.keep q1.ext q1.ws
  have rx := q1.shared S.gf
  obtain ⟨o, d, e, q⟩ := h1.ofD
  have hst : PO X (some (.UnaryOp .USub (.Constant (.int 1) k p1) p2)) (tPart (tUn (rU fun i => .int (-i)) (tC (.int 1)))) := po_some (pe_un un_neg pe_int)
  refine wpAny_Slice (thn (po_none.run pins s1 σ H1 (fun o H2 => o = none ∧ H2 = H1) I1 ⟨rfl, rfl⟩) fun vl s2 ⟨l, H2, I2, pl, el, e2⟩ => ?_)
  subst el e2
  refine thn (po_none.run pins s2 σ H2 (fun o H3 => o = none ∧ H3 = H2) I2 ⟨rfl, rfl⟩) fun vu s3 ⟨u, H3, I3, pu, eu, e3⟩ => ?_
  subst eu e3
  refine thn (hst.run pins s3 σ H3 (fun o H4 => o = some (-1) ∧ H4 = H3) I3 ⟨1, rfl, -1, rfl, rfl, rfl⟩) fun vs s4 ⟨o4, H4, I4, ps, eo, e4⟩ => ?_
  subst eo e4
  have I5 : Inv X pins σ H4 { s4 with heap := s4.heap.push { cls := .type "slice", data := .fields #[vl, vu, vs] } } := I4.kept (t' := s4.toks) fun b ob q => Heap.get?_push_of_some _ q
  show wpAny (model X.prog X.w) X.A (subscriptTail a (.Slice none none (some (.UnaryOp .USub (.Constant (.int 1) k p1) p2)) p3) v (.ref s4.heap.objs.size)) (EP X pins σ Q) X.xe { s4 with heap := s4.heap.push { cls := .type "slice", data := .fields #[vl, vu, vs] } }
  unfold revD at e
  split at e
  · rename_i xs hxs
    cases e
    rw [hxs] at rx
    obtain ⟨a', ws, rfl, hx, ry, _⟩ := lst_of rx
    obtain rfl : v = .ref a' := r1
    obtain ⟨its, r, ht, hz⟩ := I5.list (.inl (.inl hx))
    have hlen := r.length
    refine tail_any (ops := [.ref a', .ref s4.heap.objs.size]) ht.isList.typeIs (PySem.slot_list_getitem.lookup) ?_ (by with_unfolding_all rfl)
    refine wpAny_getItem_list_slice ht.isList (Heap.IsSliceOf.new _ vl vu vs) pl pu ps (by decide) ?_ (by rw [List.size_toArray]; omega)
    rw [PySem.W.krv_pick]
    have hp := I5.hok.fresh (Nat.le_refl _)
    refine ⟨.ref _, _, I5.laid (t' := s4.toks) (o := .lst ws.reverse) (fun b ob q => Heap.get?_push_of_some _ q) (Nat.le_refl _) ?_, rfl, q _ _ α1 [_] ((Post.newLo flatL_rev q1.ws S1.gf hp ry.rev).from q1.ext fun _ g => g)⟩
    exact ⟨by rw [List.length_reverse]; exact hz, _, 0, r.reverse, Heap.get?_push_size _ rfl⟩
  · rename_i t ht
    split at e
    · rename_i hz
      cases e
      rw [ht] at rx
      have ex := rep_str rx
      subst ex
      obtain ⟨tk, rfl⟩ := r1
      obtain ⟨l', rfl, hl'⟩ := IsPart.raw pl
      obtain ⟨u', rfl, hu'⟩ := IsPart.raw pu
      obtain ⟨s', rfl, hs'⟩ := IsPart.raw ps
      cases l' with
      | some _ => cases hl'
      | none =>
        cases u' with
        | some _ => cases hu'
        | none =>
          cases s' with
          | none => cases hs'
          | some y =>
            obtain ⟨y1, y2⟩ := y
            have : y1 = -1 := by simpa using hs'
            subst this
            refine tail_any (ops := [.str (toStr t) tk, .ref s4.heap.objs.size]) (typeIs_str _ _ _) F.slot_str_getitem.lookup ?_ (by with_unfolding_all rfl)
            refine wpAny_getItem_str_slice (l := none) (u := none) (st := some (-1, y2)) ⟨_, Heap.get?_push_size _ rfl, rfl, rfl⟩ rfl ?_
            show Made.post (Made.str ⟨((Builtin.Str.strSliceIndices none none (-1) (toStr t).length).filterMap ((toStr t).cps[·]?)).toArray⟩) (EP X pins σ Q) _
            rw [toStr_len, str_rev]
            exact ⟨by rw [toStr_len, List.length_reverse]; exact maxLen_le hz, .str _, H4, I5.tok _, ⟨_, rfl⟩, q _ _ α1 [] ((Post.str q1.ws).from q1.ext fun _ g => g)⟩
    · cases e
  · cases e
end
end PD
/-! DEx4: attributes, calls -/
namespace PD
open PySem PySem.Spec PyProof.Rows L2
section
variable {T : Tab} {N : List Str} {sc : Scope}

/-! ### attributes -/
def attrC : Expr → Bool
  | .Call _ _ _ _ => false
  | _ => true
theorem attrC_by {o : Expr} (h : attrC o = true) (f : Str) (env : PySem.Env) (whole : Sem Value) : attributeBase o f env whole = whole := by
  cases o <;> first | rfl | cases h
/-- the fields of an instance that is no one's own -/
theorem ins_of {K : PySem.W.Frag} {CT : CTab} {α : List Addr} {G : Addr → Prop} {H : Hp} {c : Nat} {fs : List D} {v : V} (h : Rep K CT α G H (.ins c fs) .no v []) :
    ∃ a dx us, v = .ref a ∧ InsAt CT H c a dx us ∧ RepL K CT α G H fs .no us [] ∧ a ≠ dx := by
  unfold Rep at h
  obtain ⟨a, dx, us, os', h1, h2, h3, hne, ta, td, h4, h5, h6⟩ := h
  rw [if_pos rfl] at h6
  obtain ⟨_, _, e⟩ := h6
  subst e
  exact ⟨a, dx, us, h1, h4, h5, hne⟩
theorem impl_attr {o : Expr} {o' : Ex} {f : Str} {c k : Nat} {pos : Pos} (ho : ImplE T N sc o o') (hb : attrC o = true) (hk : T.P.kc c = true) (hf : (T.CT c).names[k]? = some f) : ImplE T N sc (.Attribute o f pos) (.attr o' c k) := by
  intro n X W σ H r st α G Q S h pins s I
  unfold evE at h
  refine attr_of (attrC_by hb _ _ _) (thn (ho n X W σ H r st α G _ S (h.bind (Ext.refl _ _) fun _ g => g) pins s I) fun u s1 ⟨x, H1, I1, ru, v, st1, α1, os1, p1, h1⟩ => ?_)
  split at h1
  · rename_i c' fs hv
    split at h1
    · rename_i hc
      subst hc
      split at h1
      · rename_i d hd
        have S1 := S.keep p1.ext p1.ws
        have rx := p1.shared S.gf
        rw [hv] at rx
        obtain ⟨a, dx, us, rfl, hi, rs, _⟩ := ins_of rx
        obtain ⟨w, os', h2, h3, h4⟩ := RepL.ix rs hd
        obtain rfl := List.sublist_nil.mp h3
        obtain ⟨_, hs, _, hsl, hfl⟩ := S.ok.F.cls _ hk
        unfold InsAt at hi
        rw [if_pos hsl] at hi
        obtain ⟨vs, hst, _, hvs⟩ := hi
        obtain ⟨p, t⟩ := hfl k f hf
        obtain rfl : u = .ref a := ru
        refine SlX.getslot_ok I1 hst hs t (hvs k w h2) fun u' s2 I2 ru => ⟨w, H1, I2, ru, h1 w H1 α1 [] ⟨p1.ext, p1.ws, ?_, fun _ z => (by cases z), List.nodup_nil⟩⟩
        have rw' : Rep X.K T.CT α1 (Gm G []) H1 d .no w [] := Rep.ext (Ext.refl _ _) (fun a g _ => ⟨g, by simp⟩) _ h4
        show Rep X.K T.CT α1 (Gm G []) H1 d (if flat d then .all else .no) w []
        split
        · rename_i fl
          exact (Rep.flat d fl rw').2
        · exact rw'
      · exact h1.elim
    · exact h1.elim
  · exact h1.elim

/-! ### calls -/
theorem SatE.toC {K : PySem.W.Frag} {CT : CTab} {W : WX} {σ : L2.St} {α : List Addr} {H : Hp} {G : Addr → Prop} {Q : VK} {m : R VD} (h : SatE K CT W σ α H G Q m) : SatC K CT (fun c d H' => W c d σ H') α H G Q m := by
  cases m with
  | ok v st' => exact h
  | exc c ds st' => exact fun H' α' cls dd e w x => h H' α' cls dd e w x
  | no => exact h
/-- an exception of a callee is taken -/
theorem passes_at {X : Cx} {W : WX} (tk : Takes X W) (σ : L2.St) (pins : List (Addr × Obj)) (H : Hp) (s : Shared) (e : Value) (s' : Shared) (I : Inv X pins σ H s) (c : L2.CX X.prog X.w X.stack H s (fun c d H' => W c d σ H') e s') : X.xe e s' :=
  tk e s' (XE.of_call I (fun _ _ _ h => h) c)
theorem run_fnW {X : Cx} {W : WX} {pins : List (Addr × Obj)} {σ : L2.St} {H : Hp} {s : Shared} {k : Nat} {f : Addr} {sp : Sp} {Q : VK} {us : List Value} {vs : List V} {A : Around} (F : FnG X.prog X.w X.K X.mg X.base k f sp) (hr : Room k A) (hg : A.guards = some [])
    (e0 : Env0 X.prog X.w X.K X.mg X.base A X.stack s H) (tk : Takes X W) (I : Inv X pins σ H s) (r : Vals vs us) (h : sp vs H Q fun c d H' => W c d σ H') :
    wpAny (model X.prog X.w) A (call (.ref f) us) (EP X pins σ Q) X.xe s := by
  refine wpAny_call (codeAny_mono (F A X.stack s H us vs Q _ hr hg e0 r h) fun r s' hq => ?_)
  cases r with
  | error e => exact passes_at tk σ pins H s e s' I hq
  | ok fl =>
    cases fl with
    | ret u => exact I.after hq
    | next => exact False.elim hq
    | brk => exact False.elim hq
    | cont => exact False.elim hq
theorem Sit.gl (hg : sc.names.lookup x = some .globalImplicit) {n : Nat} {X : Cx} (ok : XOk T n N sc X) : Gl X x := by
  show X.env.scope.names.lookup x = _
  rw [ok.hsc]; exact hg
theorem make_guards {A : Around} {C : Addr} {us : List Value} : (A.under (.builtin "type.__call__" ⟨.ref C :: us, []⟩)).guards = A.guards := by
  have z : guardIds.contains "type.__call__" = false := by decide +kernel
  have e : (Code.builtin "type.__call__" ⟨.ref C :: us, []⟩).guards = [] := by
    unfold Code.guards
    rw [show (Code.builtin "type.__call__" ⟨.ref C :: us, []⟩).isGuard = false from z]
    rfl
  simp only [Around.under, e]
  cases A.guards <;> simp [pushGuards]
/-- f(..), f a def of the module -/
theorem impl_call {x : Str} {e : Expr} {es : List Expr} {es' : Exs} {f : Nat} {F : Fn} {p pos : Pos} (hx : x = T.fname f) (hF : T.P.fns[f]? = some F) (hi : F.ini = none) (hm : T.P.mc f = none) (hg : sc.names.lookup x = some .globalImplicit) (hd : (x == ("__debug__" : Str)) = false)
    (hs : (e :: es).all noStar = true) (ha : ImplL T N sc (e :: es) es') : ImplE T N sc (.Call (.Name x p) (e :: es) [] pos) (.call f es') := by
  intro n X W σ H r st α G Q S h pins s I
  unfold evE at h
  obtain ⟨a, m1, m2, m3⟩ := S.ok.F.fn f F hF hi hm
  refine wpAny_Call_Name_kw (ld_glob I (Sit.gl hg S.ok) (by rw [hx]; exact m1) ?_ hd)
  have z := ha n X W σ H r st α G _ S (h.bindL (Ext.refl _ _) fun _ g => g) pos pins s I
  rw [List.all_cons, Bool.and_eq_true] at hs
  refine PySem.W.callWith_K (h₀ := X.base) (first := []) I.ok.mod.kin m2 (thn z fun us s1 ⟨vs, H1, I1, rv, v, st1, α1, os1, p1, h1, _⟩ => ?_) (star_of hs.1 es X.env) (plain_of hs.2)
  have S1 := S.keep p1.ext p1.ws
  refine ⟨I1.kIn, run_fnW m3 (S.ok.room.mono (by omega)) S.ok.gd I1.env0 S.tk I1 rv ⟨v.2, α1, G, st1, p1.shared S.gf, p1.ws, S1.gf, ?_⟩⟩
  exact (h1.from p1.ext fun _ g => g).toC
theorem repL_nil {K : PySem.W.Frag} {CT : CTab} {α : List Addr} {G : Addr → Prop} {H : Hp} {o : Own} : RepL K CT α G H [] o [] [] := by
  unfold RepL
  exact ⟨rfl, rfl⟩
theorem impl_call0 {x : Str} {f : Nat} {F : Fn} {p pos : Pos} (hx : x = T.fname f) (hF : T.P.fns[f]? = some F) (hi : F.ini = none) (hm : T.P.mc f = none) (hg : sc.names.lookup x = some .globalImplicit) (hd : (x == ("__debug__" : Str)) = false) :
    ImplE T N sc (.Call (.Name x p) [] [] pos) (.call f .nil) := by
  intro n X W σ H r st α G Q S h pins s I
  unfold evE evEs at h
  have h : SatE X.K T.CT W σ α H G Q (run T.P n f [] st) := h
  obtain ⟨a, m1, m2, m3⟩ := S.ok.F.fn f F hF hi hm
  refine wpAny_Call_Name_kw (ld_glob I (Sit.gl hg S.ok) (by rw [hx]; exact m1) ?_ hd)
  exact PySem.W.callWith_K0 (first := []) I.kIn m2 (run_fnW (us := []) m3 (S.ok.room.mono (by omega)) S.ok.gd I.env0 S.tk I .nil ⟨[], α, G, st, repL_nil, S.ws, S.gf, h.toC⟩)
/-- o.m(..), m a def of the class of o -/
theorem impl_mcall {x : Str} {o e : Expr} {es : List Expr} {o' : Ex} {es' : Exs} {f c : Nat} {F : Fn} {apos pos : Pos} (hx : x = T.mname f) (hF : T.P.fns[f]? = some F) (hi : F.ini = none) (hm : T.P.mc f = some c) (hb : attrC o = true) (ho : ImplE T N sc o o')
    (hs : (e :: es).all noStar = true) (ha : ImplL T N sc (e :: es) es')
    (ht : ∀ env : PySem.Env, ∃ pl : Sem Bool, eval (.Call (.Attribute o x apos) (e :: es) [] pos) env = (do
      let ov ← eval o env
      standAt apos.atName
      let (f, first) ← holding [ov] (getMethod ov x pl)
      callWith pos f first (backTo pos (starEach (e :: es) env)) (backToKw pos (keywordEach [] env)))) : ImplE T N sc (.Call (.Attribute o x apos) (e :: es) [] pos) (.mcall f o' es') := by
  intro n X W σ H r st α G Q S h pins s I
  unfold evE at h
  subst hx
  obtain ⟨a, m1, m2, m3, m4⟩ := S.ok.F.meth f F c hF hi hm
  obtain ⟨pl, ht⟩ := ht X.env
  refine PySem.W.methodCall_KW (pl := pl) (thn (ho n X W σ H r st α G _ S (h.bind (Ext.refl _ _) fun _ g => g) pins s I) fun u s1 ⟨y, H1, I1, ru, v, st1, α1, os1, p1, h1⟩ => ?_) ht
  split at h1
  · rename_i hin
    have S1 := S.keep p1.ext p1.ws
    have rx := p1.shared S.gf
    have hv : ∃ fs, v.2 = .ins c fs := by
      have hin' : insOf (T.P.mc f) v.2 = true := hin
      rw [hm] at hin'
      cases hv : v.2 with
      | ins c' fs =>
        rw [hv] at hin'
        have : c = c' := by simpa [insOf] using hin'
        subst this
        exact ⟨fs, rfl⟩
      | _ => rw [hv] at hin'; exact (nomatch hin')
    obtain ⟨fs, hv⟩ := hv
    have rx0 := rx
    rw [hv] at rx
    obtain ⟨b, dx, us, rfl, hi2, rs, _⟩ := ins_of rx
    unfold InsAt at hi2
    rw [if_pos m2] at hi2
    obtain ⟨ws, hst, _⟩ := hi2
    obtain rfl : u = .ref b := ru
    refine SlX.getmethsl_ok I1 hst m1 m3 ?_
    rw [List.all_cons, Bool.and_eq_true] at hs
    have z := ha n X W σ H1 r st1 α1 G _ S1 (h1.bindL p1.ext fun _ g => g) pos pins s1 I1
    refine PySem.W.callWith_K (first := [.ref b]) (h₀ := X.base) I.ok.mod.kin m3.kp (thn z fun us2 s2 ⟨xs, H2, I2, r2, w, st2, α2, os2, p2, h2, _⟩ => ⟨I2.kIn, ?_⟩) (star_of hs.1 es X.env) (plain_of hs.2)
    have S2 := S1.keep p2.ext p2.ws
    refine run_fnW (us := .ref b :: us2) (vs := .ref b :: xs) m4 (S.ok.room.mono (by omega)) S.ok.gd I2.env0 S.tk I2 (.cons rfl r2) ⟨v.2 :: w.2, α2, G, st2, ?_, p2.ws, S2.gf, ?_⟩
    · unfold RepL
      exact ⟨_, _, [], [], rfl, rfl, Rep.ext p2.ext (fun _ g _ => g) _ rx0, p2.shared S1.gf⟩
    · exact (h2.from (p1.ext.trans p2.ext) fun _ g => g).toC
  · exact h1.elim
/-- C(..) -/
theorem impl_make {x : Str} {e : Expr} {es : List Expr} {es' : Exs} {f c : Nat} {F : Fn} {p pos : Pos} (hx : x = T.fname f) (hF : T.P.fns[f]? = some F) (hi : F.ini = some c) (hg : sc.names.lookup x = some .globalImplicit) (hd : (x == ("__debug__" : Str)) = false)
    (hs : (e :: es).all noStar = true) (ha : ImplL T N sc (e :: es) es') : ImplE T N sc (.Call (.Name x p) (e :: es) [] pos) (.call f es') := by
  intro n X W σ H r st α G Q S h pins s I
  unfold evE at h
  obtain ⟨a, m1, m2, m3⟩ := S.ok.F.new f F c hF hi
  refine wpAny_Call_Name_kw (ld_glob I (Sit.gl hg S.ok) (by rw [hx]; exact m1) ?_ hd)
  have z := ha n X W σ H r st α G _ S (h.bindL (Ext.refl _ _) fun _ g => g) pos pins s I
  rw [List.all_cons, Bool.and_eq_true] at hs
  refine PySem.W.callWith_K (h₀ := X.base) (first := []) I.ok.mod.kin m2.kp (thn z fun us s1 ⟨vs, H1, I1, rv, v, st1, α1, os1, p1, h1, _⟩ => ⟨I1.kIn, ?_⟩) (star_of hs.1 es X.env) (plain_of hs.2)
  have S1 := S.keep p1.ext p1.ws
  have hq : ∀ y dx, H1 y = none → H1 dx = none → dx ≠ y → SpI T X.K n f c (V.ref y :: vs) (upd (upd H1 dx (.own y)) y (.ins (T.CT c).C dx [])) (fun v H2 => v = .non ∧ Q (.ref y) H2) (fun c d H' => W c d σ H') := by
    intro y dx h1' h2' hne
    refine ⟨y, dx, H1, vs, v.2, α1, G, st1, rfl, h1', h2', hne, rfl, p1.shared S.gf, p1.ws, S1.gf, ?_⟩
    have hc := (h1.from p1.ext fun _ g => g).toC
    have hc : SatC X.K T.CT (fun c d H' => W c d σ H') α1 H1 G Q (run T.P n f v.2 st1) := hc
    cases hm : run T.P n f v.2 st1 with
    | ok u st' =>
      rw [hm] at hc
      intro x2 H' α' os pz e
      subst e
      exact ⟨rfl, hc _ H' α' os pz⟩
    | exc c ds st' => rw [hm] at hc; exact hc
    | no => rw [hm] at hc; exact hc
  -- as the kit's rule for a made instance, the wish about exceptions told at this place
  have hq' := hq (s1.heap.objs.size + 1) s1.heap.objs.size (I1.hok.fresh (Nat.le_succ _)) (I1.hok.fresh (Nat.le_refl _)) (Nat.ne_of_lt (Nat.lt_succ_self _))
  have I2 := Inv.made (C := (T.CT c).C) I1
  have hr : Room (4 * n + 1) X.A := S.ok.room.mono (by omega)
  refine wpAny_call (make_map (f := a) I1.kIn m2.makes m2.init (beq_iff_eq.mp m2.fn) (codeAny_mono (m3 _ X.stack _ _ (Value.ref (s1.heap.objs.size + 1) :: us) _ _ _ (hr.make _ us []) (make_guards.trans S.ok.gd) (I2.env0.make _ us []) (Paired.cons (show RelV (V.ref (s1.heap.objs.size + 1)) (Value.ref (s1.heap.objs.size + 1)) from rfl) rv) hq') fun r s' hq2 => ?_))
  cases r with
  | error e => exact passes_at S.tk σ pins _ _ e s' I2 hq2
  | ok fl =>
    cases fl with
    | ret u =>
      obtain ⟨w, H', I3, rw', ev, q3⟩ := I2.after hq2
      subst ev
      exact ⟨rw', ⟨V.ref (s1.heap.objs.size + 1), H', I3, rfl, q3⟩⟩
    | next => exact False.elim hq2
    | brk => exact False.elim hq2
    | cont => exact False.elim hq2

/-! ### the box -/
theorem intsOf_rep {K : PySem.W.Frag} {CT : CTab} {α : List Addr} {G : Addr → Prop} {H : Hp} {o : Own} : ∀ {ds : List D} {l : List Int} {vs : List V} {os : List Addr}, intsOf ds = some l → RepL K CT α G H ds o vs os → vs = l.map V.int ∧ os = []
  | [], l, vs, os, h, r => by
    unfold RepL at r
    unfold intsOf at h
    cases h
    exact r
  | d :: ds, l, vs, os, h, r => by
    unfold RepL at r
    obtain ⟨v, r', os1, os2, rfl, rfl, h3, h4⟩ := r
    cases d with
    | int i =>
      unfold intsOf at h
      obtain ⟨l', hl, rfl⟩ := Option.map_eq_some_iff.mp h
      obtain ⟨e1, e2⟩ := intsOf_rep hl h4
      unfold Rep at h3
      rw [e1, e2, h3.1, h3.2]
      exact ⟨rfl, rfl⟩
    | _ => unfold intsOf at h; cases h
theorem impl_box {e : Expr} {e' : Ex} (h : ImplE T N sc e e') : ImplE T N sc e (.box e') := by
  intro n X W σ H r st α G Q S hs
  unfold evE at hs
  refine wE.mono (h n X W σ H r st α G _ S (hs.bind (Ext.refl _ _) fun _ g => g)) fun x H1 ⟨v, st1, α1, os1, p1, h1⟩ => ?_
  split at h1
  · rename_i xs
    split at h1
    · rename_i l hl
      have r1 := p1.rep
      have r1 : Rep X.K T.CT α1 (Gm G os1) H1 (.lst xs) .all x os1 := r1
      unfold Rep at r1
      obtain ⟨a, vs, os', rfl, na, rx, ha⟩ := r1
      rw [if_neg (by decide)] at ha
      obtain ⟨e1, e2⟩ := intsOf_rep hl rx
      obtain ⟨ha, e3⟩ := ha
      have fa : H a = none := p1.fr a (by rw [e3]; exact List.mem_cons_self)
      have lst1 : α1.length = st1.length := p1.ws.len
      refine h1 (.ref a) H1 (α1 ++ [a]) [] ⟨⟨?_, ?_, ?_⟩, ⟨?_, ?_, ?_⟩, ?_, fun _ z => (by cases z), List.nodup_nil⟩
      · exact p1.ext.kp
      · obtain ⟨β, hβ, hb⟩ := p1.ext.al
        refine ⟨β ++ [a], by rw [hβ, List.append_assoc], fun b hb' => ?_⟩
        rcases List.mem_append.mp hb' with z | z
        · exact hb b z
        · rw [List.mem_singleton.mp z]; exact fa
      · exact p1.ext.cell
      · rw [List.length_append, List.length_append, lst1]; rfl
      · exact List.nodup_append.mpr ⟨p1.ws.nd, by simp, fun b hb c hc z => na (by rw [List.mem_singleton.mp hc] at z; exact z ▸ hb)⟩
      · intro m b hb
        by_cases hm : m < α1.length
        · rw [List.getElem?_append_left hm] at hb
          obtain ⟨ys, k1, k2⟩ := p1.ws.at_ m b hb
          exact ⟨ys, by rw [List.getElem?_append_left (by omega)]; exact k1, k2⟩
        · rw [List.getElem?_append_right (by omega)] at hb
          have z : m = α1.length := by
            have := (List.getElem?_eq_some_iff.mp hb).1
            simp at this
            omega
          subst z
          simp at hb
          subst hb
          refine ⟨l, by rw [lst1, List.getElem?_append_right (Nat.le_refl _)]; simp, ?_⟩
          rw [ha, e1]
      · show Rep X.K T.CT (α1 ++ [a]) (Gm G []) H1 (.hnd st1.length) .all (.ref a) []
        unfold Rep
        exact ⟨⟨a, by rw [← lst1, List.getElem?_append_right (Nat.le_refl _)]; simp, rfl⟩, rfl⟩
    · exact h1.elim
  · exact h1.elim

/-! ### isinstance -/
/-- a value's type -/
def tyVal (CT : CTab) : D → Value
  | .non => .type "NoneType"
  | .bl _ => .type "bool"
  | .int _ => .type "int"
  | .str _ => .type "str"
  | .lst _ => .type "list"
  | .tup _ => .type "tuple"
  | .dic _ _ => .type "dict"
  | .ins c _ => .ref (CT c).C
  | .hnd _ => .type "list"
  | .scr _ => .type "list"
def tyRef (CT : CTab) : Ty → Value
  | .int => .type "int"
  | .bool => .type "bool"
  | .str => .type "str"
  | .list => .type "list"
  | .tuple => .type "tuple"
  | .dict => .type "dict"
  | .cls c => .ref (CT c).C
def tyV' (CT : CTab) : Ty → V
  | .int => .ty "int"
  | .bool => .ty "bool"
  | .str => .ty "str"
  | .list => .ty "list"
  | .tuple => .ty "tuple"
  | .dict => .ty "dict"
  | .cls c => .ref (CT c).C
theorem kit_rep {n : Nat} {X : Cx} (ok : XOk T n N sc X) {pins : List (Addr × Obj)} {σ : L2.St} {α : List Addr} {G : Addr → Prop} {H : Hp} {s : Shared} {d : D} {v : V} {u : Value} (hk : tyOk T.P.kc d = true) (I : Inv X pins σ H s) (r : Rep X.K T.CT α G H d .no v []) (ru : RelV v u) :
    ∃ P : Heap → Prop, PySem.W.KitX X.K u (tyVal T.CT d) P ∧ P s.heap ∧ u ≠ .builtin "__main__.__loader__#opaque" := by
  cases d with
  | non => unfold Rep at r; rw [r.1] at ru; exact kit_of I ru (.base .non)
  | bl b => unfold Rep at r; rw [r.1] at ru; exact kit_of I ru (.base (.bl b))
  | int i => unfold Rep at r; rw [r.1] at ru; exact kit_of I ru (.base (.int i))
  | str t => unfold Rep at r; rw [r.1] at ru; exact kit_of I ru (.base (.str _))
  | lst xs =>
    obtain ⟨a, vs, rfl, ha, _⟩ := lst_of r
    exact kit_of I ru (.base (.lst ha))
  | tup xs =>
    obtain ⟨a, vs, rfl, ha, _⟩ := tup_of r
    rcases ha with ⟨ha | ⟨o, ha⟩, _⟩ | ⟨o, its, m, h1, h2, _⟩
    · exact kit_of I ru (.base (.tup ha))
    · exact kit_of I ru (.fTuple ha)
    · exact kit_of I ru (.kTuple h1 h2)
  | dic ks ds =>
    obtain ⟨a, kvs, rfl, ha, _⟩ := dic_of r
    rcases ha with ha | ⟨o, ha⟩
    · exact kit_of I ru (.base (.dK ha))
    · exact kit_of I ru (.fDict ha)
  | ins c fs =>
    obtain ⟨a, dx, us, rfl, hi, _, _⟩ := ins_of r
    obtain ⟨_, hs, hz, hsl, _⟩ := ok.F.cls c hk
    unfold InsAt at hi
    rw [if_pos hsl] at hi
    obtain ⟨vs, hst, _⟩ := hi
    obtain rfl : u = .ref a := ru
    obtain ⟨sl, od, _, J, _⟩ := SlX.slt_inst I hst
    exact ⟨_, OwX.kitx_slt hs.ic (hs.get _) hz.ca hz.cn hz.ct hz.cm, J, fun z => nomatch z⟩
  | hnd m => cases hk
  | scr xs => cases hk
/-- one class's answer -/
theorem kit_one {n : Nat} {X : Cx} (ok : XOk T n N sc X) {d : D} {t : Ty} (hk : tyOk T.P.kc d = true) (ht : ∀ c, t = .cls c → T.P.kc c = true) : PySem.W.kitOne X.K (tyVal T.CT d) (tyRef T.CT t) = some (tyD t d) := by
  have c1 : ∀ (c : Nat) (a : String), T.P.kc c = true → a ∈ ["NoneType", "bool", "int", "str", "list", "tuple", "dict"] → _ := fun c a h m => ok.F.kit c h a m
  cases t with
  | cls c =>
    have hc := ht c rfl
    cases d with
    | ins c' fs => exact ok.F.kitC c' c hk hc
    | hnd m => cases hk
    | scr xs => cases hk
    | _ => exact (c1 c _ hc (by decide)).1
  | _ =>
    cases d with
    | ins c' fs => exact (c1 c' _ hk (by decide)).2
    | hnd m => cases hk
    | scr xs => cases hk
    | _ => first | exact kit_ty (r := true) (by decide +kernel) | exact kit_ty (r := false) (by decide +kernel)
/-- the classes' answers -/
theorem kit_any {n : Nat} {X : Cx} (ok : XOk T n N sc X) {d : D} (hk : tyOk T.P.kc d = true) : ∀ {ts : List Ty}, (∀ c, Ty.cls c ∈ ts → T.P.kc c = true) → PySem.W.kitAny X.K (tyVal T.CT d) (ts.map (tyRef T.CT)) = some (ts.any (tyD · d))
  | [], _ => kitAny_nil
  | t :: ts, h => by
    have ih := kit_any ok hk (ts := ts) fun c hc => h c (List.mem_cons_of_mem _ hc)
    have h1 := kit_one ok (t := t) hk fun c hc => h c (hc ▸ List.mem_cons_self)
    rw [List.map_cons, List.any_cons]
    exact kitAny_cons h1 (fun e => by rw [e, Bool.false_or]; exact ih) (fun e => by rw [e, Bool.true_or])
def tyNm (T : Tab) : Ty → Str
  | .int => "int"
  | .bool => "bool"
  | .str => "str"
  | .list => "list"
  | .tuple => "tuple"
  | .dict => "dict"
  | .cls c => T.cname c
theorem boot_tys : bootBuiltins "int" = some (.type "int") ∧ bootBuiltins "bool" = some (.type "bool") ∧ bootBuiltins "str" = some (.type "str") ∧ bootBuiltins "list" = some (.type "list") ∧ bootBuiltins "tuple" = some (.type "tuple") ∧ bootBuiltins "dict" = some (.type "dict") :=
  ⟨by decide +kernel, by decide +kernel, by decide +kernel, by decide +kernel, by decide +kernel, by decide +kernel⟩
theorem pe_tyN {n : Nat} {X : Cx} (ok : XOk T n N sc X) {t : Ty} {x : Str} {pos : Pos} (hx : x = tyNm T t) (hc : ∀ c, t = .cls c → T.P.kc c = true) (hg : sc.names.lookup x = some .globalImplicit) (hd : (x == ("__debug__" : Str)) = false) : PE X (.Name x pos) (tC (tyV' T.CT t)) := by
  have g : Gl X x := Sit.gl hg ok
  have bl : ∀ y : Str, y ∈ (["int", "bool", "str", "list", "tuple", "dict"] : List Str) → X.mg y = none := fun y hy => ok.F.blt y (by
    rcases List.mem_cons.mp hy with rfl | hy
    · simp
    rcases List.mem_cons.mp hy with rfl | hy
    · simp
    rcases List.mem_cons.mp hy with rfl | hy
    · simp
    rcases List.mem_cons.mp hy with rfl | hy
    · simp
    rcases List.mem_cons.mp hy with rfl | hy
    · simp
    rcases List.mem_cons.mp hy with rfl | hy
    · simp
    cases hy)
  obtain ⟨b1, b2, b3, b4, b5, b6⟩ := boot_tys
  cases t with
  | int => subst hx; exact pe_bltn g (bl _ (by simp [tyNm])) b1 rfl (show (("int" : Str) ≠ "__name__") by decide) hd
  | bool => subst hx; exact pe_bltn g (bl _ (by simp [tyNm])) b2 rfl (show (("bool" : Str) ≠ "__name__") by decide) hd
  | str => subst hx; exact pe_bltn g (bl _ (by simp [tyNm])) b3 rfl (show (("str" : Str) ≠ "__name__") by decide) hd
  | list => subst hx; exact pe_bltn g (bl _ (by simp [tyNm])) b4 rfl (show (("list" : Str) ≠ "__name__") by decide) hd
  | tuple => subst hx; exact pe_bltn g (bl _ (by simp [tyNm])) b5 rfl (show (("tuple" : Str) ≠ "__name__") by decide) hd
  | dict => subst hx; exact pe_bltn g (bl _ (by simp [tyNm])) b6 rfl (show (("dict" : Str) ≠ "__name__") by decide) hd
  | cls c => subst hx; exact pe_glob (u := .ref (T.CT c).C) g (ok.F.cls c (hc c rfl)).1 rfl hd
theorem clsV_of (CT : CTab) (t : Ty) : ClsV (tyV' CT t) (tyRef CT t) := by cases t <;> first | exact .ty _ | exact .own _
theorem isi_arg (hg : sc.names.lookup ("isinstance" : Str) = some .globalImplicit) {e c : Expr} {p pos : Pos} {n : Nat} {X : Cx} (ok : XOk T n N sc X) (h1 : noStar e = true) (h2 : noStar c = true) :
    PE X (.Call (.Name "isinstance" p) [e, c] [] pos) (tCB (wCall X (.builtin "isinstance")) (tCons (wE X e) (tCons (wE X c) tNil))) :=
  pe_callB call_w (Sit.gl hg ok) (ok.F.blt _ (by simp)) (by decide +kernel) (pa_cons pe_w (pa_cons pe_w pa_nil (star_of h2 _ _)) (star_of h1 _ _)) (by decide) (by decide) (star_of h1 _ _) (plain_of (by simp [h2]))
theorem impl_isi1 {e : Expr} {e' : Ex} {t : Ty} {x : Str} {p q pos : Pos} (he : ImplE T N sc e e') (h1 : noStar e = true) (hi : sc.names.lookup ("isinstance" : Str) = some .globalImplicit) (hx : x = tyNm T t) (hc : ∀ c, t = .cls c → T.P.kc c = true) (hg : sc.names.lookup x = some .globalImplicit)
    (hd : (x == ("__debug__" : Str)) = false) : ImplE T N sc (.Call (.Name "isinstance" p) [e, .Name x q] [] pos) (.isi e' [t]) := by
  intro n X W σ H r st α G Q S h
  unfold evE at h
  refine wE.of (isi_arg hi S.ok h1 rfl) ?_
  refine wE.mono (he n X W σ H r st α G _ S (h.bind (Ext.refl _ _) fun _ g => g)) fun y H1 ⟨v, st1, α1, os1, p1, k1⟩ => ?_
  split at k1
  · rename_i hk
    refine wE.of (pe_tyN S.ok hx hc hg hd) fun pins s σ' us I rv => ?_
    have rx := p1.shared S.gf
    cases rv with
    | cons r1 rv =>
      cases rv with
      | cons r2 rv =>
        cases rv
        have e2 := (clsV_of T.CT t).eq r2
        subst e2
        obtain ⟨P, Z, pp, hne⟩ := kit_rep S.ok hk I rx r1
        have one := kit_one S.ok (t := t) hk hc
        refine PySem.W.kia_one Z I.kIn pp one hne fun tk => ⟨.bl _, H1, I.tok tk, rfl, ?_⟩
        have k1 : ∀ x H' α' os, Post X.K T.CT α H G st1 .all (.bl ([t].any (tyD · v.2))) x H' α' os → Q x H' := k1
        rw [show [t].any (tyD · v.2) = tyD t v.2 by simp] at k1
        exact k1 _ _ _ _ ((Post.bl p1.ws).from p1.ext fun _ g => g)
  · exact k1.elim
/-- the names of the classes of a display -/
def tysC (T : Tab) (sc : Scope) : List Expr → List Ty → Bool
  | [], [] => true
  | .Name x _ :: es, t :: ts => decide (x = tyNm T t) && (match t with | .cls c => T.P.kc c | _ => true) && decide (sc.names.lookup x = some .globalImplicit) && !(x == ("__debug__" : Str)) && tysC T sc es ts
  | _, _ => false
theorem tys_pa {n : Nat} {X : Cx} (ok : XOk T n N sc X) : ∀ {es : List Expr} {ts : List Ty}, tysC T sc es ts = true → ∃ t, PA X es t ∧ ∀ σ H Q, Q (ts.map (tyV' T.CT)) H → t σ H Q
  | [], [], _ => ⟨_, pa_nil, fun _ _ _ q => q⟩
  | e :: es, t :: ts, h => by
    cases e with
    | Name x p =>
      unfold tysC at h
      simp only [Bool.and_eq_true, decide_eq_true_eq, Bool.not_eq_true'] at h
      obtain ⟨⟨⟨⟨h1, h2⟩, h3⟩, h4⟩, h5⟩ := h
      obtain ⟨u, k1, k2⟩ := tys_pa ok h5
      exact ⟨_, pa_cons (pe_tyN ok h1 (fun c e => by subst e; exact h2) h3 h4) k1, fun σ H Q q => k2 σ H _ q⟩
    | _ => unfold tysC at h; cases h
  | [], _ :: _, h => by unfold tysC at h; cases h
  | e :: es, [], h => by cases e <;> (unfold tysC at h; cases h)
theorem tys_cls {es : List Expr} : ∀ {ts : List Ty}, tysC T sc es ts = true → ∀ c, Ty.cls c ∈ ts → T.P.kc c = true := by
  induction es with
  | nil =>
    intro ts h c hc
    cases ts with
    | nil => cases hc
    | cons => unfold tysC at h; cases h
  | cons e es ih =>
    intro ts h c hc
    cases ts with
    | nil => cases hc
    | cons t ts =>
      cases e with
      | Name x p =>
        unfold tysC at h
        simp only [Bool.and_eq_true, decide_eq_true_eq, Bool.not_eq_true'] at h
        obtain ⟨⟨⟨⟨h1, h2⟩, h3⟩, h4⟩, h5⟩ := h
        rcases List.mem_cons.mp hc with z | z
        · subst z; exact h2
        · exact ih h5 c z
      | _ => unfold tysC at h; cases h
theorem pair_cls (CT : CTab) : ∀ (ts : List Ty), Paired ClsV (ts.map (tyV' CT)) (ts.map (tyRef CT))
  | [] => .nil
  | t :: ts => .cons (clsV_of CT t) (pair_cls CT ts)
theorem impl_isiT {e : Expr} {e' : Ex} {ts : List Ty} {es : List Expr} {k : Nat} {p q pos : Pos} (he : ImplE T N sc e e') (h1 : noStar e = true) (hi : sc.names.lookup ("isinstance" : Str) = some .globalImplicit) (ht : tysC T sc es ts = true) (hl : ts.length ≤ 1000) :
    ImplE T N sc (.Call (.Name "isinstance" p) [e, .Tuple es k q] [] pos) (.isi e' ts) := by
  intro n X W σ H r st α G Q S h
  unfold evE at h
  refine wE.of (isi_arg hi S.ok h1 rfl) ?_
  refine wE.mono (he n X W σ H r st α G _ S (h.bind (Ext.refl _ _) fun _ g => g)) fun y H1 ⟨v, st1, α1, os1, p1, k1⟩ => ?_
  split at k1
  · rename_i hk
    obtain ⟨t, z1, z2⟩ := tys_pa S.ok ht
    refine wE.of (pe_tup z1) (z2 σ H1 _ ⟨by rw [List.length_map]; exact small_len hl, fun tp hp => fun pins s σ' us I rv => ?_⟩)
    have rx := Rep.ext (Ext.new (α := α1) (o := .tup (ts.map (tyV' T.CT))) hp) (fun _ g _ => g) _ (p1.shared S.gf)
    cases rv with
    | cons r1 rv =>
      cases rv with
      | cons r2 rv =>
        cases rv
        rename_i u2
        obtain rfl : u2 = Value.ref tp := r2
        obtain ⟨P, Z, pp, hne⟩ := kit_rep S.ok hk I rx r1
        have any := kit_any S.ok hk (tys_cls ht)
        obtain ⟨_, its, rv, o, h1, h2, m, h3⟩ := (show ObjOk X.prog X.w _ s.heap tp (.tup (ts.map (tyV' T.CT))) from I.hok tp _ upd_same)
        have e3 := ClsV.all (pair_cls T.CT ts) rv
        subst e3
        obtain ⟨oc, od, dt, sl⟩ := o
        simp only at h2 h3
        subst h2 h3
        exact PySem.W.kia_tup Z I.kIn pp h1 any hne fun tk => ⟨.bl _, _, I.tok tk, rfl, k1 _ _ _ _ ((Post.bl (p1.ws.new hp)).from (p1.ext.trans (Ext.new hp)) fun _ g => g)⟩
  · exact k1.elim
end
end PD
/-! DBi: built-in functions -/
namespace PD
open PySem PySem.Spec PyProof.Rows L2
section
variable {T : Tab} {N : List Str} {sc : Scope}
def biV : Bi → Value
  | .len => .builtin "len"
  | .int => .type "int"
  | .str => .type "str"
  | .repr => .builtin "repr"
  | .sum => .builtin "sum"
  | .min1 => .builtin "min"
  | .min2 => .builtin "min"
  | .max1 => .builtin "max"
  | .max2 => .builtin "max"
  | .all => .builtin "all"
  | .any => .builtin "any"
  | .list => .type "list"
  | .tuple => .type "tuple"
  | .dict => .type "dict"
  | .sorted => .builtin "sorted"
def biN : Bi → Str
  | .len => "len"
  | .int => "int"
  | .str => "str"
  | .repr => "repr"
  | .sum => "sum"
  | .min1 => "min"
  | .min2 => "min"
  | .max1 => "max"
  | .max2 => "max"
  | .all => "all"
  | .any => "any"
  | .list => "list"
  | .tuple => "tuple"
  | .dict => "dict"
  | .sorted => "sorted"
/-- a call with values, in these names' values -/
def wCallS (X : Cx) (f : Value) (σ : L2.St) (vs : List V) (H : Hp) (Q : VK) : Prop := ∀ pins s us, Inv X pins σ H s → Vals vs us → wpAny (model X.prog X.w) X.A (call f us) (EP X pins σ Q) X.xe s
theorem wCallS.of {X : Cx} {f : Value} {σ : L2.St} {r : List V → Hp → VK → Prop} (h : CallR X f r) {xs : List V} {H : Hp} {Q : VK} (q : r xs H Q) : wCallS X f σ xs H Q := fun pins s us I rx => h pins s σ H xs us Q I rx q
section
variable {K : PySem.W.Frag} {CT : CTab} {α : List Addr} {G : Addr → Prop} {H : Hp}
theorem RepL.one {d : D} {vs : List V} (h : RepL K CT α G H [d] .no vs []) : ∃ v, vs = [v] ∧ Rep K CT α G H d .no v [] := by
  unfold RepL at h
  obtain ⟨v, r, os1, os2, h1, h2, h3, h4⟩ := h
  unfold RepL at h4
  obtain ⟨rfl, _⟩ := List.append_eq_nil_iff.mp h2.symm
  exact ⟨v, by rw [h1, h4.1], h3⟩
theorem RepL.two {d e : D} {vs : List V} (h : RepL K CT α G H [d, e] .no vs []) : ∃ v w, vs = [v, w] ∧ Rep K CT α G H d .no v [] ∧ Rep K CT α G H e .no w [] := by
  unfold RepL at h
  obtain ⟨v, r, os1, os2, h1, h2, h3, h4⟩ := h
  obtain ⟨rfl, rfl⟩ := List.append_eq_nil_iff.mp h2.symm
  obtain ⟨w, e1, h5⟩ := RepL.one h4
  exact ⟨v, w, by rw [h1, e1], h3, h5⟩
theorem boolsOf_rep {o : Own} : ∀ {ds : List D} {l : List Bool} {vs : List V} {os : List Addr}, boolsOf ds = some l → RepL K CT α G H ds o vs os → vs = l.map V.bl ∧ os = []
  | [], l, vs, os, h, r => by
    unfold RepL at r
    unfold boolsOf at h
    cases h
    exact r
  | d :: ds, l, vs, os, h, r => by
    unfold RepL at r
    obtain ⟨v, r', os1, os2, rfl, rfl, h3, h4⟩ := r
    cases d with
    | bl i =>
      unfold boolsOf at h
      obtain ⟨l', hl, rfl⟩ := Option.map_eq_some_iff.mp h
      obtain ⟨e1, e2⟩ := boolsOf_rep hl h4
      unfold Rep at h3
      rw [e1, e2, h3.1, h3.2]
      exact ⟨rfl, rfl⟩
    | _ => unfold boolsOf at h; cases h
theorem RepL.signs (o : Own) : ∀ (s : List Nat), RepL K CT α G H (s.map fun c => D.str [c]) o (s.map fun c => V.str (toStr [c])) []
  | [] => by
    simp
    unfold RepL
    exact ⟨rfl, rfl⟩
  | c :: s => by
    rw [List.map_cons, List.map_cons]
    unfold RepL
    exact ⟨_, _, [], [], rfl, rfl, by unfold Rep; exact ⟨rfl, rfl⟩, RepL.signs o s⟩
theorem flatL_signs : ∀ (s : List Nat), flatL (s.map fun c => D.str [c]) = true
  | [] => rfl
  | c :: s => by
    rw [List.map_cons]
    show (flat (.str [c]) && flatL _) = true
    rw [flatL_signs s]; rfl
end
theorem signs_at {s : List Nat} {acc : Array Value} (h : ItemsOf (SignAt (toStr s)) acc (toStr s).cps.size) : Vals (s.map fun c => V.str (toStr [c])) acc.toList := by
  obtain ⟨hl, hx⟩ := h
  have e1 : (toStr s).cps.size = s.length := toStr_len s
  have key : ∀ (t : List Nat) (l : List Value), l.length = t.length → (∀ (j : Nat) (v : Value), l[j]? = some v → ∃ (c : Nat) (u : Tok), t[j]? = some c ∧ v = Value.str ⟨#[c]⟩ u) → Vals (t.map fun c => V.str (toStr [c])) l := by
    intro t
    induction t with
    | nil =>
      intro l hl _
      cases l with
      | nil => exact .nil
      | cons => simp at hl
    | cons c t ih =>
      intro l hl hx
      cases l with
      | nil => simp at hl
      | cons v l =>
        obtain ⟨c', u, h1, h2⟩ := hx 0 v rfl
        have : c = c' := by simpa using h1
        subst this
        exact .cons ⟨u, h2⟩ (ih l (by simpa using hl) fun j w hw => by simpa using hx (j + 1) w (by simpa using hw))
  refine key s acc.toList (by rw [Array.length_toList, hl, e1]) fun j v hv => ?_
  obtain ⟨c, u, h1, h2⟩ := hx j v (by rw [← Array.getElem?_toList]; exact hv)
  exact ⟨c, u, by simpa [toStr] using h1, h2⟩
/-! ### repr -/
mutual
theorem reads_rep {X : Cx} {CT : CTab} {pins : List (Addr × Obj)} {σ : L2.St} {H : Hp} {s : Shared} (I : Inv X pins σ H s) {α : List Addr} {G : Addr → Prop} : ∀ (d : D) {p : PyData} {v : V} {u : Value}, pyD d = some p → Rep X.K CT α G H d .no v [] → RelV v u → ∃ as, Reads s.heap u p as
  | .non, p, v, u, h, r, ru => by
    unfold pyD at h; cases h
    unfold Rep at r; rw [r.1] at ru
    obtain rfl : u = Value.none := ru
    exact ⟨[], .none⟩
  | .bl b, p, v, u, h, r, ru => by
    unfold pyD at h; cases h
    unfold Rep at r; rw [r.1] at ru
    obtain rfl : u = Value.bool b := ru
    exact ⟨[], .bool b⟩
  | .int i, p, v, u, h, r, ru => by
    unfold pyD at h; cases h
    unfold Rep at r; rw [r.1] at ru
    obtain ⟨t, rfl⟩ := ru
    exact ⟨[], .int i t⟩
  | .str x, p, v, u, h, r, ru => by
    unfold pyD at h; cases h
    unfold Rep at r; rw [r.1] at ru
    obtain ⟨t, rfl⟩ := ru
    exact ⟨[], .str _ t⟩
  | .lst xs, p, v, u, h, r, ru => by
    unfold pyD at h
    obtain ⟨ps, hp, rfl⟩ := Option.map_eq_some_iff.mp h
    obtain ⟨a, vs, rfl, ha, rx, _⟩ := lst_of r
    obtain rfl : u = .ref a := ru
    obtain ⟨_, its, n, rv, e⟩ := I.hok a _ ha
    obtain ⟨as, ra⟩ := reads_repL I xs hp rx rv
    exact ⟨a :: as, .list e rfl rfl ra⟩
  | .tup xs, p, v, u, h, r, ru => by
    unfold pyD at h
    obtain ⟨ps, hp, rfl⟩ := Option.map_eq_some_iff.mp h
    obtain ⟨a, vs, rfl, ha, rx⟩ := tup_of r
    obtain rfl : u = .ref a := ru
    obtain ⟨us, rv, o, ho, hc, n, hd⟩ := isTup_of I ha
    obtain ⟨as, ra⟩ := reads_repL I xs hp rx rv
    exact ⟨as, .tuple ho hc hd ra⟩
  | .dic _ _, p, v, u, h, r, ru => by unfold pyD at h; cases h
  | .ins _ _, p, v, u, h, r, ru => by unfold pyD at h; cases h
  | .hnd _, p, v, u, h, r, ru => by unfold pyD at h; cases h
  | .scr _, p, v, u, h, r, ru => by unfold pyD at h; cases h
theorem reads_repL {X : Cx} {CT : CTab} {pins : List (Addr × Obj)} {σ : L2.St} {H : Hp} {s : Shared} (I : Inv X pins σ H s) {α : List Addr} {G : Addr → Prop} : ∀ (ds : List D) {ps : List PyData} {vs : List V} {us : List Value}, pyD.pyL ds = some ps → RepL X.K CT α G H ds .no vs [] → Vals vs us → ∃ as, ReadsAll s.heap us ps as
  | [], ps, vs, us, h, r, ru => by
    unfold pyD.pyL at h; cases h
    unfold RepL at r
    rw [r.1] at ru
    cases ru
    exact ⟨[], .nil⟩
  | d :: ds, ps, vs, us, h, r, ru => by
    unfold pyD.pyL at h
    obtain ⟨p, hp, h⟩ := Option.bind_eq_some_iff.mp h
    obtain ⟨qs, hq, rfl⟩ := Option.map_eq_some_iff.mp h
    unfold RepL at r
    obtain ⟨v, r', os1, os2, rfl, h2, h3, h4⟩ := r
    obtain ⟨rfl, rfl⟩ := List.append_eq_nil_iff.mp h2.symm
    cases ru with
    | cons r1 r2 =>
      obtain ⟨as, ra⟩ := reads_rep I d hp h3 r1
      obtain ⟨bs, rb⟩ := reads_repL I ds hq h4 r2
      exact ⟨as ++ bs, .cons ra rb⟩
end
mutual
theorem pyD_nodict : ∀ (d : D) {p : PyData}, pyD d = some p → p.hasDict = false
  | .non, p, h => by unfold pyD at h; cases h; rfl
  | .bl b, p, h => by unfold pyD at h; cases h; rfl
  | .int b, p, h => by unfold pyD at h; cases h; rfl
  | .str b, p, h => by unfold pyD at h; cases h; rfl
  | .lst xs, p, h => by
    unfold pyD at h
    obtain ⟨ps, hp, rfl⟩ := Option.map_eq_some_iff.mp h
    show PyData.hasDict (.list ps) = false
    rw [PyData.hasDict]
    exact pyL_nodict xs hp
  | .tup xs, p, h => by
    unfold pyD at h
    obtain ⟨ps, hp, rfl⟩ := Option.map_eq_some_iff.mp h
    show PyData.hasDict (.tuple ps) = false
    rw [PyData.hasDict]
    exact pyL_nodict xs hp
  | .dic _ _, p, h => by unfold pyD at h; cases h
  | .ins _ _, p, h => by unfold pyD at h; cases h
  | .hnd _, p, h => by unfold pyD at h; cases h
  | .scr _, p, h => by unfold pyD at h; cases h
theorem pyL_nodict : ∀ (ds : List D) {ps : List PyData}, pyD.pyL ds = some ps → PyData.hasDictAll ps = false
  | [], ps, h => by unfold pyD.pyL at h; cases h; rfl
  | d :: ds, ps, h => by
    unfold pyD.pyL at h
    obtain ⟨p, hp, h⟩ := Option.bind_eq_some_iff.mp h
    obtain ⟨qs, hq, rfl⟩ := Option.map_eq_some_iff.mp h
    rw [PyData.hasDictAll, pyD_nodict d hp, pyL_nodict ds hq]
    rfl
end
theorem rpD_of {d : D} {t : List Nat} (h : rpD d = some t) : ∃ p, pyD d = some p ∧ p.showable = true ∧ p.shown.length ≤ maxLen ∧ p.depth ≤ 40 ∧ p.shown = toStr t := by
  unfold rpD at h
  split at h
  · rename_i p hp
    split at h
    · rename_i hz
      cases h
      refine ⟨p, hp, hz.1, hz.2.1, hz.2.2, ?_⟩
      show p.shown = ⟨p.shown.cps.toList.toArray⟩
      cases p.shown
      simp
    · cases h
  · cases h
theorem repr_ok {n : Nat} {X : Cx} (ok : XOk T n N sc X) {pins : List (Addr × Obj)} {σ : L2.St} {α : List Addr} {G : Addr → Prop} {H : Hp} {s : Shared} {d : D} {t : List Nat} {v : V} {u : Value} {Q : VK} (h : rpD d = some t) (I : Inv X pins σ H s) (r : Rep X.K T.CT α G H d .no v []) (ru : RelV v u)
    (q : Q (.str (toStr t)) H) : wpAny (model X.prog X.w) X.A (call (.builtin "repr") [u]) (EP X pins σ Q) X.xe s := by
  obtain ⟨p, hp, h1, h2, h3, e⟩ := rpD_of h
  have hz : p.shown.length ≤ sizeLine := maxLen_le h2
  have hu := ok.hu
  obtain ⟨as, rd⟩ := reads_rep I d hp r ru
  have far : ∀ a, u = .ref a → wpAny (model X.prog X.w) X.A (call (.builtin "repr") [u]) (EP X pins σ Q) X.xe s := fun a ea => by
    subst ea
    exact repr_of_reads' rd h1 (PyData.noDict_hsm (pyD_nodict d hp)) ok.gd (by omega) (fun _ _ e => e) (fun h' u tk hk => ⟨.str (toStr t), H, I.kept hk, ⟨u, by rw [e]⟩, q⟩) hz
  cases d with
  | non =>
    unfold pyD at hp; cases hp
    unfold Rep at r; rw [r.1] at ru
    obtain rfl : u = Value.none := ru
    exact P.repr_of_none ⟨.str (toStr t), H, I.tok _, ⟨_, by rw [← e]; rfl⟩, q⟩
  | bl b =>
    unfold pyD at hp; cases hp
    unfold Rep at r; rw [r.1] at ru
    obtain rfl : u = Value.bool b := ru
    exact P.repr_of_bool ⟨.str (toStr t), H, I.tok _, ⟨_, by rw [← e]; rfl⟩, q⟩
  | int i =>
    unfold pyD at hp; cases hp
    unfold Rep at r; rw [r.1] at ru
    obtain ⟨tk, rfl⟩ := ru
    exact P.repr_of_int (by simpa [PyData.showable] using h1) ⟨.str (toStr t), H, I.tok _, ⟨_, by rw [← e]; rfl⟩, q⟩
  | str x =>
    unfold pyD at hp; cases hp
    unfold Rep at r; rw [r.1] at ru
    obtain ⟨tk, rfl⟩ := ru
    exact P.repr_of_str ⟨.str (toStr t), H, I.tok _, ⟨_, by rw [← e]; rfl⟩, q⟩ hz
  | lst xs =>
    obtain ⟨a, vs, rfl, _⟩ := lst_of r
    exact far a ru
  | tup xs =>
    obtain ⟨a, vs, rfl, _⟩ := tup_of r
    exact far a ru
  | _ => unfold pyD at hp; cases hp
theorem str_int_ok {X : Cx} {pins : List (Addr × Obj)} {σ : L2.St} {H : Hp} {s : Shared} {i : Int} {t : List Nat} {u : Value} {Q : VK} (h : rpD (.int i) = some t) (I : Inv X pins σ H s) (ru : RelV (.int i) u) (q : Q (.str (toStr t)) H) :
    wpAny (model X.prog X.w) X.A (call (.type "str") [u]) (EP X pins σ Q) X.xe s := by
  obtain ⟨p, hp, h1, h2, h3, e⟩ := rpD_of h
  unfold pyD at hp; cases hp
  obtain ⟨tk, rfl⟩ := ru
  exact PySem.P.str_of_int (by simpa [PyData.showable] using h1) ⟨.str (toStr t), H, I.tok _, ⟨_, by rw [← e]; rfl⟩, q⟩
/-! ### the calls -/
theorem lstSeq {X : Cx} {CT : CTab} {α : List Addr} {G : Addr → Prop} {H : Hp} {xs : List D} {v : V} (r : Rep X.K CT α G H (.lst xs) .no v []) : ∃ a vs, v = .ref a ∧ SqL X.K H a vs ∧ RepL X.K CT α G H xs .no vs [] := by
  obtain ⟨a, vs, h1, h2, h3, _⟩ := lst_of r
  exact ⟨a, vs, h1, .inl (.inl h2), h3⟩
theorem bi_ok {n : Nat} {X : Cx} {W : WX} {σ : L2.St} {α : List Addr} {H : Hp} {G : Addr → Prop} {st : Store} {Q : VK} (ok : XOk T n N sc X) (tk : Takes X W) {b : Bi} {ds : List D} {vs : List V} (r : RepL X.K T.CT α G H ds .no vs []) (w : WS α st H) (g : GF G H)
    (h : SatE X.K T.CT W σ α H G Q (biD (T.P.env n) st b ds)) : wCallS X (biV b) σ vs H Q := by
  unfold biD at h
  split at h
  · -- len of a text
    split at h
    · rename_i hz
      obtain ⟨v, rfl, rv⟩ := r.one
      rw [rep_str rv]
      refine wCallS.of call_len ⟨_, _, rfl, ⟨by rw [toStr_len]; exact maxLen_le hz, rfl⟩, ?_⟩
      rw [toStr_len]
      exact h _ _ _ _ (.int w)
    · exact h.elim
  · obtain ⟨v, rfl, rv⟩ := r.one
    obtain ⟨a, us, rfl, ha, rx⟩ := lstSeq rv
    refine wCallS.of call_len ⟨_, us.length, rfl, .inl ⟨us, ha, rfl⟩, ?_⟩
    rw [rx.len]
    exact h _ _ _ _ (.int w)
  · obtain ⟨v, rfl, rv⟩ := r.one
    obtain ⟨a, us, rfl, ha, rx⟩ := tup_of rv
    refine wCallS.of call_len ⟨_, us.length, rfl, .inr ⟨us, ha.sqT, rfl⟩, ?_⟩
    rw [rx.len]
    exact h _ _ _ _ (.int w)
  · obtain ⟨v, rfl, rv⟩ := r.one
    unfold Rep at rv
    obtain ⟨⟨a, rfl, ha⟩, _⟩ := rv
    refine wCallS.of call_len ⟨_, _, rfl, .inl ⟨_, ha.sqL, rfl⟩, ?_⟩
    rw [List.length_map]
    exact h _ _ _ _ (.int w)
  · obtain ⟨v, rfl, rv⟩ := r.one
    obtain ⟨a, kvs, rfl, ha, hk, _⟩ := dic_of rv
    intro pins s us I ru
    obtain ⟨u, rfl, ru2⟩ := vals1 ru
    obtain rfl : u = .ref a := ru2
    have l := keysR_len hk
    rw [List.length_map] at l
    refine d_len I ha fun t s' I' => ⟨.int kvs.length, H, I', ⟨t, rfl⟩, ?_⟩
    rw [l]
    exact h _ _ _ _ (.int w)
  · -- len of an instance
    rename_i c fs
    split at h
    · rename_i f hf
      obtain ⟨v, rfl, rv⟩ := r.one
      obtain ⟨hk, a, hs, hfn, hF⟩ := ok.F.len c f hf
      obtain ⟨_, hc, _, hsl, _⟩ := ok.F.cls c hk
      obtain ⟨b, dx, us, rfl, hi, _, _⟩ := ins_of rv
      unfold InsAt at hi
      rw [if_pos hsl] at hi
      obtain ⟨ws, hst, _⟩ := hi
      intro pins s us' I ru
      obtain ⟨u, rfl, ru2⟩ := vals1 ru
      obtain rfl : u = .ref b := ru2
      obtain ⟨sl, od, _, J, _⟩ := SlX.slt_inst I hst
      obtain ⟨m, hFr⟩ := I.fr
      have hr : Room (4 * n) X.A.in1 := (ok.room.mono (j := 4 * n + 1) (by omega)).in1
      have hc2 := (SatE.toC (h.bind (Ext.refl _ _) fun _ g => g))
      refine PySem.W.len_K hFr I.ok.mod.kin J hs hfn (thn (run_fnW (us := [.ref b]) (vs := [.ref b]) hF hr ok.gd I.env0.in1 tk I (.cons rfl .nil) ⟨[.ins c fs], α, G, st, r, w, g, hc2⟩) fun y s1 ⟨z, H1, I1, rz, v1, st1, α1, os1, p1, h1⟩ => ?_)
      split at h1
      · rename_i i hv
        split at h1
        · rename_i hz
          have rp := p1.rep
          rw [hv] at rp
          rw [rep_int rp] at rz
          obtain ⟨t, rfl⟩ := rz
          refine ⟨⟨hz.1, by omega⟩, .int i, H1, I1.tok _, ⟨_, rfl⟩, h1 _ _ α1 [] ((Post.int p1.ws).from p1.ext fun _ g => g)⟩
        · exact h1.elim
      · exact h1.elim
    · exact h.elim
  · obtain ⟨v, rfl, rv⟩ := r.one
    rw [rep_int rv]
    exact wCallS.of call_int1 (.inl ⟨_, rfl, h _ _ _ _ (.int w)⟩)
  · obtain ⟨v, rfl, rv⟩ := r.one
    unfold Rep at rv
    rw [rv.1]
    exact wCallS.of call_int1 (.inr ⟨_, rfl, h _ _ _ _ (.int w)⟩)
  · -- repr
    obtain ⟨v, rfl, rv⟩ := r.one
    obtain ⟨o, d, e, q⟩ := h.ofD
    obtain ⟨t, ht, e2⟩ := Option.map_eq_some_iff.mp e
    cases e2
    have ht : T.P.rp _ = some t := ht
    rw [ok.F.rp] at ht
    intro pins s us I ru
    obtain ⟨u, rfl, ru2⟩ := vals1 ru
    exact repr_ok ok ht I rv ru2 (q _ _ _ _ (.str w))
  · obtain ⟨v, rfl, rv⟩ := r.one
    rw [rep_str rv]
    exact wCallS.of SkE.call_str_str ⟨_, rfl, h _ _ _ _ (.str w)⟩
  · obtain ⟨v, rfl, rv⟩ := r.one
    obtain ⟨o, d, e, q⟩ := h.ofD
    obtain ⟨t, ht, e2⟩ := Option.map_eq_some_iff.mp e
    cases e2
    have ht : T.P.rp _ = some t := ht
    rw [ok.F.rp] at ht
    intro pins s us I ru
    obtain ⟨u, rfl, ru2⟩ := vals1 ru
    rw [rep_int rv] at ru2
    exact str_int_ok ht I ru2 (q _ _ _ _ (.str w))
  · obtain ⟨v, rfl, rv⟩ := r.one
    obtain ⟨o, d, e, q⟩ := h.ofD
    obtain ⟨l, hl, e2⟩ := Option.map_eq_some_iff.mp e
    cases e2
    obtain ⟨a, us, rfl, ha, rx⟩ := lstSeq rv
    obtain ⟨rfl, _⟩ := intsOf_rep hl rx
    exact wCallS.of (cr_sum ok.calm) ⟨a, l, rfl, ha, q _ _ _ _ (.int w)⟩
  · obtain ⟨v, v', rfl, rv, rv'⟩ := r.two
    rw [rep_int rv, rep_int rv']
    exact wCallS.of (call_max2 ok.calm) ⟨_, _, rfl, h _ _ _ _ (.int w)⟩
  · obtain ⟨v, v', rfl, rv, rv'⟩ := r.two
    rw [rep_int rv, rep_int rv']
    exact wCallS.of (call_min2 ok.calm) ⟨_, _, rfl, h _ _ _ _ (.int w)⟩
  · obtain ⟨v, rfl, rv⟩ := r.one
    obtain ⟨o, d, e, q⟩ := h.ofD
    obtain ⟨l, hl, e2⟩ := Option.map_eq_some_iff.mp e
    cases e2
    obtain ⟨a, us, rfl, ha, rx⟩ := lstSeq rv
    obtain ⟨rfl, _⟩ := boolsOf_rep hl rx
    exact wCallS.of (cr_all ok.calm) ⟨a, l, rfl, ha, q _ _ _ _ (.bl w)⟩
  · obtain ⟨v, rfl, rv⟩ := r.one
    obtain ⟨o, d, e, q⟩ := h.ofD
    obtain ⟨l, hl, e2⟩ := Option.map_eq_some_iff.mp e
    cases e2
    obtain ⟨a, us, rfl, ha, rx⟩ := lstSeq rv
    obtain ⟨rfl, _⟩ := boolsOf_rep hl rx
    exact wCallS.of (cr_any ok.calm) ⟨a, l, rfl, ha, q _ _ _ _ (.bl w)⟩
  · -- list
    obtain ⟨v, rfl, rv⟩ := r.one
    obtain ⟨a, us, rfl, ha, rx⟩ := lstSeq rv
    exact wCallS.of call_list_of ⟨a, us, rfl, .inl ha, fun p hp => h _ _ _ _ (.newL w g hp rx)⟩
  · obtain ⟨v, rfl, rv⟩ := r.one
    obtain ⟨a, us, rfl, ha, rx⟩ := tup_of rv
    exact wCallS.of call_list_of ⟨a, us, rfl, .inr ha.sqT, fun p hp => h _ _ _ _ (.newL w g hp rx)⟩
  · split at h
    · rename_i s0 hz
      obtain ⟨v, rfl, rv⟩ := r.one
      rw [rep_str rv]
      intro pins s us I ru
      obtain ⟨u, rfl, ru2⟩ := vals1 ru
      obtain ⟨t, rfl⟩ := (show ∃ t, u = Value.str (toStr s0) t from ru2)
      have lz : (toStr s0).cps.size = s0.length := toStr_len s0
      refine call_list_str (I.ok.hd ok.calm) (toStr s0) t (fun h' tk' acc' c' hk hS hacc => ?_) (by rw [lz]; exact maxLen_le hz)
      have hp : H s.heap.objs.size = none := I.hok.fresh (Nat.le_refl _)
      refine ⟨.ref s.heap.objs.size, upd H s.heap.objs.size (.lst (s0.map fun c => V.str (toStr [c]))), I.laid (t' := tk') hk (Nat.le_refl _) ⟨by rw [List.length_map]; exact maxLen_le hz, acc'.toList, c', signs_at hacc, by rw [Array.toArray_toList]; exact hS⟩, rfl, h _ _ α [s.heap.objs.size] ?_⟩
      have z := Post.newL (st := st) w g hp (RepL.signs (K := X.K) (CT := T.CT) .no s0)
      unfold newO at z
      rw [if_pos (flatL_signs _)] at z
      exact z
    · exact h.elim
  · -- tuple
    obtain ⟨v, rfl, rv⟩ := r.one
    obtain ⟨a, us, rfl, ha, rx⟩ := lstSeq rv
    exact wCallS.of call_tuple_of ⟨a, us, rfl, .inl ⟨ha, fun p hp => h _ _ _ _ (.newT w g hp rx)⟩⟩
  · obtain ⟨v, rfl, rv⟩ := r.one
    have rv0 := rv
    obtain ⟨a, us, rfl, ha, rx⟩ := tup_of rv
    refine wCallS.of call_tuple_of ⟨a, us, rfl, .inr ⟨ha.sqT, h (.ref a) H α [] ⟨Ext.refl _ _, w, ?_, fun _ z => (by cases z), List.nodup_nil⟩⟩⟩
    have rep' := Rep.ext (G' := Gm G []) (Ext.refl _ _) (fun a g _ => ⟨g, by simp⟩) _ rv0
    show Rep X.K T.CT α (Gm G []) H _ (flatO _) _ []
    unfold flatO
    split
    · rename_i f
      exact (Rep.flat _ f rep').2
    · exact rep'
  · split at h
    · rename_i s0 hz
      obtain ⟨v, rfl, rv⟩ := r.one
      rw [rep_str rv]
      intro pins s us I ru
      obtain ⟨u, rfl, ru2⟩ := vals1 ru
      obtain ⟨t, rfl⟩ := (show ∃ t, u = Value.str (toStr s0) t from ru2)
      have lz : (toStr s0).cps.size = s0.length := toStr_len s0
      refine call_tuple_str (I.ok.hd ok.calm) (toStr s0) t (fun h' tk' acc hk hacc => ?_) (by rw [lz]; exact maxLen_le hz)
      have I1 : Inv X pins σ H { s with heap := h', toks := tk' } := I.kept hk
      have hp : H h'.objs.size = none := I1.hok.fresh (Nat.le_refl _)
      have hv := signs_at hacc
      have I2 : Inv X pins σ (upd H h'.objs.size (.tup (s0.map fun c => V.str (toStr [c])))) { s with heap := h'.push { cls := .type "tuple", data := .seq acc }, toks := tk' } :=
        I1.laid (t' := tk') (fun b o e => Heap.get?_push_of_some _ e) (Nat.le_refl _) ⟨by rw [List.length_map]; exact maxLen_le hz, acc.toList, hv, by rw [Array.toArray_toList]; exact IsTup.new _ _⟩
      refine ⟨.ref h'.objs.size, _, I2, rfl, h _ _ α [] ?_⟩
      have z := Post.newT (st := st) w g hp (RepL.signs (K := X.K) (CT := T.CT) .no s0)
      unfold flatO at z
      rw [if_pos (show flat (.tup (s0.map fun c => D.str [c])) = true by unfold PD.flat; exact flatL_signs _)] at z
      exact z
    · exact h.elim
  · exact h.elim
theorem boot_bi (b : Bi) : bootBuiltins (biN b) = some (biV b) := by cases b <;> decide +kernel
theorem biN_blt (b : Bi) {n : Nat} {X : Cx} (ok : XOk T n N sc X) : X.mg (biN b) = none := ok.F.blt _ (by cases b <;> simp [biN])
theorem biN_ne (b : Bi) : biN b ≠ "__name__" ∧ (biN b == ("__debug__" : Str)) = false := by cases b <;> decide
theorem biV_kind (b : Bi) : (∃ id, biV b = .builtin id) ∨ ∃ T, biV b = .type T := by
  cases b <;> first
    | exact .inl ⟨_, rfl⟩
    | exact .inr ⟨_, rfl⟩
theorem impl_bi {b : Bi} {x : Str} {e : Expr} {es : List Expr} {es' : Exs} {p pos : Pos} (hx : x = biN b) (hg : sc.names.lookup x = some .globalImplicit) (hs : (e :: es).all noStar = true) (ha : ImplL T N sc (e :: es) es') : ImplE T N sc (.Call (.Name x p) (e :: es) [] pos) (.bi b es') := by
  intro n X W σ H r st α G Q S h pins s I
  unfold evE at h
  subst hx
  refine wpAny_Call_Name_kw (ld_blt I (Sit.gl hg S.ok) (biN_blt b S.ok) (boot_bi b) ?_ (biN_ne b).1 (biN_ne b).2)
  have z := ha n X W σ H r st α G _ S (h.bindL (Ext.refl _ _) fun _ g => g) pos pins s I
  rw [List.all_cons, Bool.and_eq_true] at hs
  have fin : wpAny (model X.prog X.w) X.A (spliced (backTo pos (starEach (e :: es) X.env))) (fun us s' => wpAny (model X.prog X.w) X.A (call (biV b) us) (EP X pins σ Q) X.xe s') X.xe s := by
    refine thn z fun us s1 hq => ?_
    obtain ⟨vs, H1, I1, rv, v, st1, α1, os1, p1, h1, _⟩ := hq
    have S1 := S.keep p1.ext p1.ws
    exact bi_ok S.ok S.tk (p1.shared S.gf) p1.ws S1.gf (h1.from p1.ext fun _ g => g) pins s1 us I1 rv
  rcases biV_kind b with ⟨id, e⟩ | ⟨id, e⟩
  · rw [e] at fin ⊢
    exact PyProof.Rows.callWith_builtin1 fin (star_of hs.1 es X.env) (plain_of hs.2)
  · rw [e] at fin ⊢
    exact PyProof.Rows.callWith_type1 fin (star_of hs.1 es X.env) (plain_of hs.2)
end
end PD
/-! DMe: methods of built-in types -/
namespace PD
open PySem PySem.Spec PyProof.Rows L2
section
variable {T : Tab} {N : List Str} {sc : Scope}
def meN : Me → Str
  | .index => "index"
  | .indexT => "index"
  | .join => "join"
  | .split => "split"
  | .get1 => "get"
  | .get2 => "get"
  | .upper => "upper"
  | .count => "count"
  | .values => "values"
/-- the receiver's type, the method's name there -/
def meTy : Me → D → Option (String × String)
  | .index, .lst _ => some ("list", "list.index")
  | .indexT, .tup _ => some ("tuple", "tuple.index")
  | .index, .str _ => some ("str", "str.index")
  | .upper, .str _ => some ("str", "str.upper")
  | .join, .str _ => some ("str", "str.join")
  | .get2, .dic _ _ => some ("dict", "dict.get")
  | _, _ => none
theorem me_slot {m : Me} {d : D} {t id : String} (h : meTy m d = some (t, id)) : PlainAttrs t ∧ Slot t (meN m) id ∧ typeOf (.builtin id) = pure (.type "method_descriptor") := by
  unfold meTy at h
  split at h <;> cases h
  · exact ⟨F.plainAttrs_list, F.slot_list_index, F.type_list_index⟩
  · exact ⟨F.plainAttrs_tuple, F.slot_tuple_index, F.type_tuple_index⟩
  · exact ⟨F.plainAttrs_str, F.slot_str_index, F.type_str_index⟩
  · exact ⟨F.plainAttrs_str, F.slot_str_upper, F.type_str_upper⟩
  · exact ⟨F.plainAttrs_str, F.slot_str_join, F.type_str_join⟩
  · exact ⟨F.plainAttrs_dict, F.slot_dict_get, F.type_dict_get⟩
theorem meD_ty {m : Me} {d : D} {ds : List D} {o : VD} (h : meD m d ds = some o) : ∃ t id, meTy m d = some (t, id) := by
  unfold meD at h
  split at h <;> first
    | exact ⟨_, _, rfl⟩
    | cases h
theorem told_len {x : D} : ∀ {ys : List D} {bs : List Bool}, toldB x ys = some bs → bs.length = ys.length ∧ ∀ (j : Nat) (y : D), ys[j]? = some y → ∃ b, bs[j]? = some b ∧ deqF y x = some b
  | [], bs, h => by
    unfold toldB at h
    cases h
    exact ⟨rfl, fun j y hy => by simp at hy⟩
  | y :: ys, bs, h => by
    unfold toldB at h
    obtain ⟨b, hb, h⟩ := Option.bind_eq_some_iff.mp h
    obtain ⟨bs', h', rfl⟩ := Option.map_eq_some_iff.mp h
    obtain ⟨l, k⟩ := told_len h'
    refine ⟨by rw [List.length_cons, List.length_cons, l], fun j z hz => ?_⟩
    cases j with
    | zero =>
      simp at hz
      subst hz
      exact ⟨b, rfl, hb⟩
    | succ j => simpa using k j z (by simpa using hz)
theorem firstT_at : ∀ {bs : List Bool} {j : Nat}, firstT bs = some j → bs[j]? = some true ∧ ∀ m, m < j → bs[m]? = some false
  | [], j, h => by unfold firstT at h; cases h
  | b :: bs, j, h => by
    unfold firstT at h
    split at h
    · rename_i hb
      cases h
      exact ⟨by rw [hb]; rfl, fun m hm => by omega⟩
    · rename_i hb
      obtain ⟨i, hi, rfl⟩ := Option.map_eq_some_iff.mp h
      obtain ⟨h1, h2⟩ := firstT_at hi
      refine ⟨by simpa using h1, fun m hm => ?_⟩
      cases m with
      | zero => simpa using hb
      | succ m => simpa using h2 m (by omega)
/-- what stands at a place of a list or tuple is == x or not -/
theorem told_at {X : Cx} {pins : List (Addr × Obj)} {σ : L2.St} {α : List Addr} {G : Addr → Prop} {H : Hp} {s : Shared} (hu : X.A.units + 64 < cLine) (I : Inv X pins σ H s) {CT : CTab} {x : D} {ys : List D} {bs : List Bool} (h : toldB x ys = some bs) {vx : V} {u : Value} {vs : List V} {us : List Value}
    (hx : Rep X.K CT α G H x .no vx []) (hy : RepL X.K CT α G H ys .no vs []) (rx : RelV vx u) (ry : Vals vs us) : us.length = ys.length ∧ ∀ (j : Nat) (hj : j < us.toArray.size), SeqAt.EqAt X.A.in1 s us.toArray[j] u (bs.getD j false) := by
  have l1 := hy.len
  have l2 : vs.length = us.length := Paired.length ry
  refine ⟨by omega, fun j hj => ?_⟩
  have hj' : j < us.length := by simpa using hj
  have hjy : ys[j]? = some (ys[j]'(by omega)) := List.getElem?_eq_getElem (by omega)
  obtain ⟨b, hb, e⟩ := (told_len h).2 j _ hjy
  obtain ⟨v, os', k1, k2, k3⟩ := RepL.ix hy hjy
  obtain rfl := List.sublist_nil.mp k2
  obtain ⟨w', q1, q2⟩ := Vals.ix ry k1
  have ew : us.toArray[j] = w' := by
    have := (List.getElem?_eq_some_iff.mp q1).2
    simpa using this
  rw [ew, List.getD_eq_getElem?_getD, hb]
  exact eqT cloAt I 30 _ x b e k3 hx q2 rx X.A.in1 (by show X.A.units + 1 + 31 < cLine; omega)
theorem strsOf_rep {K : PySem.W.Frag} {CT : CTab} {α : List Addr} {G : Addr → Prop} {H : Hp} {o : Own} : ∀ {ds : List D} {l : List (List Nat)} {vs : List V} {os : List Addr}, strsOf ds = some l → RepL K CT α G H ds o vs os → vs = (l.map toStr).map V.str ∧ os = []
  | [], l, vs, os, h, r => by
    unfold RepL at r
    unfold strsOf at h
    cases h
    exact r
  | d :: ds, l, vs, os, h, r => by
    unfold RepL at r
    obtain ⟨v, r', os1, os2, rfl, rfl, h3, h4⟩ := r
    cases d with
    | str i =>
      unfold strsOf at h
      obtain ⟨l', hl, rfl⟩ := Option.map_eq_some_iff.mp h
      obtain ⟨e1, e2⟩ := strsOf_rep hl h4
      unfold Rep at h3
      rw [e1, e2, h3.1, h3.2]
      exact ⟨rfl, rfl⟩
    | _ => unfold strsOf at h; cases h
theorem join_str (s : List Nat) : ∀ (l : List (List Nat)), Str.join (toStr s) (l.map toStr) = toStr (joinS s l)
  | [] => rfl
  | [x] => rfl
  | x :: y :: l => by
    have ih := join_str s (y :: l)
    show toStr x ++ toStr s ++ Str.join (toStr s) ((y :: l).map toStr) = toStr (x ++ s ++ joinS s (y :: l))
    rw [ih, toStr_app, toStr_app]
theorem join_size (s : List Nat) : ∀ (l : List (List Nat)), ((l.map toStr).map (·.length)).sum + (l.map toStr).length * s.length ≤ (joinS s l).length + s.length
  | [] => by simp
  | [x] => by
    simp [joinS, toStr_len]
  | x :: y :: l => by
    have ih := join_size s (y :: l)
    show ((toStr x :: (y :: l).map toStr).map (·.length)).sum + ((y :: l).map toStr).length.succ * s.length ≤ (x ++ s ++ joinS s (y :: l)).length + s.length
    rw [List.map_cons, List.sum_cons, Nat.succ_mul, toStr_len, List.length_append, List.length_append]
    omega
theorem occ_one {s : List Nat} {c j : Nat} (h : firstT (s.map (· == c)) = some j) : ∃ rest, Builtin.Str.occurrences (toStr s) (toStr [c]) 0 (toStr s).length 1 = j :: rest := by
  obtain ⟨h1, h2⟩ := firstT_at h
  have at_iff : ∀ i, StrLaws.At (toStr s) (toStr [c]) (toStr s).length i ↔ s[i]? = some c := fun i => by
    have := StrLaws.subAt_one (toStr s) c i
    rw [toStr_list] at this
    exact this
  have hj : s[j]? = some c := by
    rw [List.getElem?_map] at h1
    obtain ⟨d, hd, e⟩ := Option.map_eq_some_iff.mp h1
    rw [hd]
    simpa using e
  have hm : ∀ m, m < j → s[m]? ≠ some c := fun m hm e => by
    have := h2 m hm
    rw [List.getElem?_map, e] at this
    simp at this
  rw [StrLaws.occ_eq]
  have lj : j < s.length := (List.getElem?_eq_some_iff.mp hj).1
  rcases StrLaws.occ_first (toStr s) (toStr [c]) (toStr s).length 1 (Nat.le_refl _) (List.range' 0 ((toStr s).length + 1 - 0)) 0 (fun _ _ => Nat.zero_le _) with ⟨_, hn⟩ | ⟨pre, a, post, e, h0, ha, hn⟩
  · exact absurd ((at_iff j).mpr hj) (hn j (by rw [toStr_len]; simp; omega))
  · have ea : a = j := by
      rcases Nat.lt_trichotomy a j with z | z | z
      · exact absurd ((at_iff a).mp ha) (hm a z)
      · exact z
      · exact absurd ((at_iff j).mpr hj) (hn j (StrLaws.range'_split e j z))
    subst ea
    generalize (forIn (List.range' 0 ((toStr s).length + 1 - 0)) ((#[] : Array Nat), 0) (StrLaws.occBody (toStr s) (toStr [c]) (toStr s).length 1)).run.fst = arr at h0
    obtain ⟨l⟩ := arr
    cases l with
    | nil => simp at h0
    | cons b l =>
      have : b = a := by simpa using h0
      subst this
      exact ⟨l, rfl⟩
theorem key_rep {K : PySem.W.Frag} {CT : CTab} {α : List Addr} {G : Addr → Prop} {H : Hp} {k : D} {v : V} (hk : isKey k = true) (r : Rep K CT α G H k .no v []) : ∃ kk, keyR k kk ∧ v = kV kk := by
  cases k with
  | int i => exact ⟨.inl i, rfl, rep_int r⟩
  | str s => exact ⟨.inr (toStr s), rfl, rep_str r⟩
  | _ => cases hk
theorem vals2 {x y : V} {us : List Value} (h : Vals [x, y] us) : ∃ u w, us = [u, w] ∧ RelV x u ∧ RelV y w := by
  cases h with
  | cons h1 h2 =>
    obtain ⟨w, rfl, h3⟩ := vals1 h2
    exact ⟨_, _, rfl, h1, h3⟩
theorem me_ok {n : Nat} {X : Cx} {α : List Addr} {H : Hp} {G : Addr → Prop} {st : Store} (ok : XOk T n N sc X) {m : Me} {d : D} {ds : List D} {o : Own} {e : D} {t id : String} (h : meD m d ds = some (o, e)) (ht : meTy m d = some (t, id)) {x : V} {vs : List V}
    (rx : Rep X.K T.CT α G H d .no x []) (r : RepL X.K T.CT α G H ds .no vs []) (w : WS α st H) {Q : VK} (q : ∀ v H' os, Post X.K T.CT α H G st o e v H' α os → Q v H') :
    ∀ pins σ s u us, Inv X pins σ H s → RelV x u → Vals vs us → wpAny (model X.prog X.w) X.A (call (.builtin id) (u :: us)) (EP X pins σ Q) X.xe s := by
  intro pins σ s u us I ru rs
  have hu := ok.hu
  unfold meD at h
  split at h
  · split at h
    · rename_i hz
      obtain ⟨j, hj, e2⟩ := Option.map_eq_some_iff.mp h
      cases e2
      cases ht
      obtain ⟨v, rfl, rv⟩ := r.one
      obtain ⟨uy, rfl, ry⟩ := vals1 rs
      obtain ⟨bs, hb, hf⟩ := Option.bind_eq_some_iff.mp hj
      obtain ⟨a, ws, rfl, ha, rl, _⟩ := lst_of rx
      obtain rfl : u = .ref a := ru
      obtain ⟨_, its, k, rv2, ho⟩ := I.hok a _ ha
      obtain ⟨l1, eqs⟩ := told_at hu I hb rv rl ry rv2
      obtain ⟨f1, f2⟩ := firstT_at hf
      have lj : j < bs.length := (List.getElem?_eq_some_iff.mp f1).1
      have lb := (told_len hb).1
      refine call_meets F.slot_list_index ⟨_, ho, rfl⟩ F.entry_list_index (F.args_list_index_2 _ _) (SeqAt.list_index2_found a its.toArray k none #[] uy (fun j => bs.getD j false) j (by simp; omega) (Nat.zero_le _) (by have := maxLen_le hz; rw [szl] at this; omega) (by simp [List.getD_eq_getElem?_getD, f1]) fun m hm _ h2 => by simp [List.getD_eq_getElem?_getD, f2 m h2]) ⟨ho, eqs, ?_⟩
      exact ⟨.int (j : Nat), H, I.tok _, ⟨_, rfl⟩, q _ _ _ (.int w)⟩
    · cases h
  · split at h
    · rename_i hz
      obtain ⟨j, hj, e2⟩ := Option.map_eq_some_iff.mp h
      cases e2
      cases ht
      obtain ⟨v, rfl, rv⟩ := r.one
      obtain ⟨uy, rfl, ry⟩ := vals1 rs
      obtain ⟨bs, hb, hf⟩ := Option.bind_eq_some_iff.mp hj
      obtain ⟨a, ws, rfl, ha, rl⟩ := tup_of rx
      obtain rfl : u = .ref a := ru
      obtain ⟨its, rv2, ⟨cls, dd, dt, sl⟩, ho, hc, k, hd⟩ := isTup_of I ha
      simp only at hc hd
      subst hc hd
      obtain ⟨l1, eqs⟩ := told_at hu I hb rv rl ry rv2
      obtain ⟨f1, f2⟩ := firstT_at hf
      have lj : j < bs.length := (List.getElem?_eq_some_iff.mp f1).1
      have lb := (told_len hb).1
      refine call_meets F.slot_tuple_index ⟨_, ho, rfl⟩ F.entry_tuple_index (F.args_tuple_index_2 _ _) (SeqAt.tuple_index2_found a its.toArray k dd sl uy (fun j => bs.getD j false) j (by simp; omega) (Nat.zero_le _) (by simp; omega) (by simp [List.getD_eq_getElem?_getD, f1]) fun m hm _ h2 => by simp [List.getD_eq_getElem?_getD, f2 m h2]) ⟨ho, eqs, ?_⟩
      exact ⟨.int (j : Nat), H, I.tok _, ⟨_, rfl⟩, q _ _ _ (.int w)⟩
    · cases h
  · split at h
    · rename_i hz
      obtain ⟨j, hj, e2⟩ := Option.map_eq_some_iff.mp h
      cases e2
      cases ht
      obtain ⟨v, rfl, rv⟩ := r.one
      obtain ⟨rest, ho⟩ := occ_one hj
      rw [rep_str rx] at ru
      rw [rep_str rv] at rs
      exact mt_sindex pins s σ H _ _ u us Q I ru rs ⟨_, _, j, rest, rfl, rfl, ho, q _ _ _ (.int w)⟩
    · cases h
  · rename_i s0
    split at h
    · rename_i hz
      cases h
      cases ht
      unfold RepL at r
      obtain ⟨rfl, _⟩ := r
      rw [rep_str rx] at ru
      refine mt_upper pins s σ H _ _ u us Q I ru rs ⟨_, rfl, rfl, by rw [toStr_len]; have := hz.1; unfold maxLen at this; omega, ?_⟩
      rw [upper_ascii (fun c hc => by
        rw [toStr_list] at hc
        exact of_decide_eq_true (List.all_eq_true.mp hz.2 c hc))]
      have e : (⟨(toStr s0).cps.map up1⟩ : Str) = toStr (List.map (fun c => if 97 ≤ c ∧ c ≤ 122 then c - 32 else c) s0) := by
        show (⟨s0.toArray.map up1⟩ : Str) = ⟨(List.map _ s0).toArray⟩
        rw [List.map_toArray]
        rfl
      rw [e]
      exact q _ _ _ (.str w)
    · cases h
  · rename_i s0 _
    obtain ⟨l, hl, h⟩ := Option.bind_eq_some_iff.mp h
    split at h
    · rename_i hz
      cases h
      cases ht
      obtain ⟨v, rfl, rv⟩ := r.one
      obtain ⟨a, ws, rfl, ha, rl, _⟩ := lst_of rv
      obtain ⟨rfl, _⟩ := strsOf_rep hl rl
      rw [rep_str rx] at ru
      refine mt_join pins s σ H _ _ u us Q I ru rs ⟨_, a, l.map toStr, rfl, rfl, .inl (.inl (.inl ha)), ?_, ?_⟩
      · have := join_size s0 l
        rw [toStr_len]
        have z1 := hz.1
        have z2 := hz.2
        unfold maxLen at z1 z2
        exact Nat.le_trans this (by omega)
      · have e : Txt.join (toStr s0) (l.map toStr) = toStr (joinS s0 l) := by
          unfold Txt.join
          rw [StrLaws.glued_eq_join, join_str]
        rw [e]
        exact q _ _ _ (.str w)
    · cases h
  · -- d.get(k, x)
    rename_i ks ds k dflt
    split at h
    · rename_i hk
      cases ht
      obtain ⟨vk, vx, rfl, rk, rv⟩ := r.two
      obtain ⟨a, kvs, rfl, ha, hks, hds, _⟩ := dic_of rx
      obtain rfl : u = .ref a := ru
      obtain ⟨uk, ux, rfl, rku, rxu⟩ := vals2 rs
      obtain ⟨kk, hkk, ek⟩ := key_rep hk rk
      subst ek
      have l := look_rep hkk hks hds
      have fin : ∀ {d0 : D} {v0 : V}, Rep X.K T.CT α G H d0 .no v0 [] → (∀ v H' os, Post X.K T.CT α H G st (flatO d0) d0 v H' α os → Q v H') → Q v0 H := fun {d0 v0} r0 q0 => by
        refine q0 v0 H [] ⟨Ext.refl _ _, w, ?_, fun _ z => (by cases z), List.nodup_nil⟩
        have rep' := Rep.ext (G' := Gm G []) (Ext.refl _ _) (fun a g _ => ⟨g, by simp⟩) _ r0
        unfold flatO
        split
        · rename_i f
          exact (Rep.flat _ f rep').2
        · exact rep'
      refine d_get2 (by omega) I (.inl ⟨kvs, kk, ha, rfl, rfl⟩) rku rxu fun w' s' I' rw' => ?_
      split at h
      · rename_i d1 hl
        cases h
        obtain ⟨v1, os', h1, h2, h3⟩ := l.1 _ hl
        obtain rfl := List.sublist_nil.mp h3
        rw [h1] at rw'
        exact ⟨v1, H, I', rw', fin h2 q⟩
      · rename_i hl
        cases h
        rw [l.2 hl] at rw'
        exact ⟨vx, H, I', rw', fin rv q⟩
    · cases h
  · cases h
theorem me_type {n : Nat} {X : Cx} {α : List Addr} {H : Hp} {G : Addr → Prop} (ok : XOk T n N sc X) {m : Me} {d : D} {t id : String} (hm : m ≠ .indexT) (ht : meTy m d = some (t, id)) {x : V} (rx : Rep X.K T.CT α G H d .no x []) {pins : List (Addr × Obj)} {σ : L2.St} {s : Shared} {u : Value} (I : Inv X pins σ H s) (ru : RelV x u) :
    s.TypeIs u t ∧ ∀ a, u = .ref a → ∃ ob, s.heap.get? a = some ob ∧ ob.dict = none := by
  unfold meTy at ht
  split at ht <;> cases ht
  · obtain ⟨a, ws, rfl, ha, rl, _⟩ := lst_of rx
    obtain rfl : u = .ref a := ru
    obtain ⟨_, its, k, rv2, ho⟩ := I.hok a _ ha
    exact ⟨⟨_, ho, rfl⟩, fun b e => by cases e; exact ⟨_, ho, rfl⟩⟩
  · exact absurd rfl hm
  all_goals first
    | (rw [rep_str rx] at ru
       obtain ⟨tk, rfl⟩ := ru
       exact ⟨typeIs_str _ _ _, fun _ e => nomatch e⟩)
    | (obtain ⟨a, kvs, rfl, ha, _⟩ := dic_of rx
       obtain rfl : u = .ref a := ru
       obtain ⟨z, hd, vs, rel, ob, es, ep, ho, hc, _⟩ := dk_rd I.hok ha
       exact ⟨⟨ob, ho, hc.1⟩, fun b e => by cases e; exact ⟨_, ho, hc.2.1⟩⟩)
theorem few_of {es : List Expr} {env : PySem.Env} {pos : Pos} (h : es.all noStar = true) (hl : es.length < 29) : ((backTo pos (starEach es env)).all (fun x => !x.1) && (backToKw pos (keywordEach [] env)).all (fun x => x.1.isSome)
      && decide (es.length + ([] : List Keyword).length + (if ([] : List Keyword).isEmpty then 0 else 1) < 30)) = true := by
  have e1 : (backTo pos (starEach es env)).all (fun x => !x.1) = true := by
    have := plain_of (env := env) (pos := pos) h
    rw [List.all_eq_true]
    intro x hx
    cases hb : x.1 with
    | false => rfl
    | true =>
      have : (backTo pos (starEach es env)).any (·.1) = true := List.any_eq_true.mpr ⟨x, hx, hb⟩
      rw [plain_of h] at this
      cases this
  rw [e1]
  show (true && true && decide (es.length + 0 + 0 < 30)) = true
  simp
  omega
theorem call_trees {M : Model} {A : Around} {E : Value → Shared → Prop} {s : Shared} {env : PySem.Env} {pos : Pos} {id : String} {u : Value} {es : List Expr} {P : List Value → Shared → Prop} {Q : Value → Shared → Prop} (hs : es.all noStar = true)
    (h : wpAny M A (spliced (backTo pos (starEach es env))) P E s) (k : ∀ us s1, P us s1 → wpAny M A (call (.builtin id) (u :: us)) Q E s1) (h0 : es = [] → P [] s) : wpAny M A (callWith pos (.builtin id) [u] (backTo pos (starEach es env)) []) Q E s := by
  cases es with
  | nil => exact Calls.callWith_builtin rfl (PySem.evalArgs_none (k [] s (h0 rfl)))
  | cons e es =>
    rw [List.all_cons, Bool.and_eq_true] at hs
    rw [star_of hs.1] at h ⊢
    refine Calls.callWith_builtin (by show (false || (backTo pos (starEach es env)).any (·.1)) = false; rw [plain_of hs.2] <;> rfl) (Calls.evalArgs_plain ?_)
    exact thn h fun us s2 hq => k us s2 hq
theorem meOk_ty {m : Me} {d : D} (h : meOk m d = true) : ∃ q, meTy m d = some q := by
  unfold meOk at h
  split at h <;> first
    | exact ⟨_, rfl⟩
    | cases h
theorem impl_meth {m : Me} {o : Expr} {es : List Expr} {o' : Ex} {es' : Exs} {x : Str} {apos cpos : Pos} (hx : x = meN m) (hm : m ≠ .indexT) (ho : ImplE T N sc o o') (hb : attrC o = true) (hline : (apos.endLine == cpos.line) = true) (hs : es.all noStar = true) (hl : es.length < 29) (h0 : es = [] → es' = .nil) (ha : ImplL T N sc es es') :
    ImplE T N sc (.Call (.Attribute o x apos) es [] cpos) (.meth m o' es') := by
  intro n X W σ H r st α G Q S h pins s I
  unfold evE at h
  subst hx
  refine wpAny_Call_method_late (attrC_by hb _ _ _) (few_of hs hl) hline rfl (thn (ho n X W σ H r st α G _ S (h.bind (Ext.refl _ _) fun _ g => g) pins s I) fun u s1 ⟨y, H1, I1, ru, v, st1, α1, os1, p1, h1⟩ => ?_)
  have S1 := S.keep p1.ext p1.ws
  have rx := p1.shared S.gf
  split at h1
  · rename_i hok
    obtain ⟨⟨t, id⟩, hty⟩ := meOk_ty hok
    obtain ⟨pa, slot, hty2⟩ := me_slot hty
    obtain ⟨t1, t2⟩ := me_type S.ok hm hty rx I1 ru
    refine ⟨t, id, pa, slot, hty2, t1, t2, ?_⟩
    have z := ha n X W σ H1 r st1 α1 G _ S1 (h1.bindL p1.ext fun _ g => g) cpos pins s1 I1
    refine call_trees hs z (fun us s2 hq => ?_) fun e => ?_
    · obtain ⟨vs, H2, I2, rv, w, st2, α2, os2, p2, h2, _⟩ := hq
      obtain ⟨o, d, e, q⟩ := h2.ofD
      exact me_ok S.ok e hty (Rep.ext p2.ext (fun _ g _ => g) _ rx) (p2.shared S1.gf) p2.ws (fun v H' os pv => q v H' α2 os (pv.from (p1.ext.trans p2.ext) fun _ g => g)) pins σ s2 u us I2 ru rv
    · have e2 := h0 e
      subst e2
      have ev : evEs (T.P.env n) .nil r st1 = .ok (true, []) st1 := by unfold evEs; rfl
      rw [ev] at h1
      refine ⟨[], H1, I1, .nil, (true, []), st1, α1, [], ⟨Ext.refl _ _, p1.ws, repL_nil, fun _ z => (by cases z), List.nodup_nil⟩, h1, ev⟩
  · exact h1.elim
/-- a method of a tuple of the module -/
theorem impl_methG {es : List Expr} {k : Nat} {es' : Exs} {x y : Str} {p apos cpos : Pos} (hx : x = meN .indexT) (hy : y = T.gname k) (hg : sc.names.lookup y = some .globalImplicit) (hd : (y == ("__debug__" : Str)) = false) (hline : (apos.endLine == cpos.line) = true) (hs : es.all noStar = true) (hl : es.length < 29) (h0 : es = [] → es' = .nil) (ha : ImplL T N sc es es') :
    ImplE T N sc (.Call (.Attribute (.Name y p) x apos) es [] cpos) (.meth .indexT (.glob k) es') := by
  intro n X W σ H r st α G Q S h pins s I
  unfold evE at h
  subst hx
  have h : SatE X.K T.CT W σ α H G Q ((evE (T.P.env n) (.glob k) r st).bind fun x st => if meOk .indexT x.2 then (evEs (T.P.env n) es' r st).bind fun xs st => .of (meD .indexT x.2 xs.2) st else .no) := h
  unfold evE at h
  split at h
  · rename_i d hk
    have h : SatE X.K T.CT W σ α H G Q (if meOk .indexT d then (evEs (T.P.env n) es' r st).bind fun xs st => .of (meD .indexT d xs.2) st else .no) := h
    obtain ⟨u, v, m1, m2, m3⟩ := S.ok.F.gl k d hk
    refine wpAny_Call_method_late (attrC_by rfl _ _ _) (few_of hs hl) hline rfl (ld_glob I (Sit.gl hg S.ok) (by rw [hy]; exact m1) ?_ hd)
    split at h
    · rename_i hok
      obtain ⟨xs, rfl⟩ : ∃ xs, d = .tup xs := by cases d <;> first | exact ⟨_, rfl⟩ | cases hok
      have rx : Rep X.K T.CT α G H (.tup xs) .no v [] := Rep.free m3
      have m3' := m3
      unfold Rep at m3'
      obtain ⟨a, vs, rfl, ht, _⟩ := m3'
      obtain rfl : u = .ref a := m2
      obtain ⟨o, its, n', k1, k2, k3, k4, k5, k6⟩ : KT X.K a vs := by
        rcases ht with ⟨ht, _⟩ | ht
        · rcases ht with z | ⟨_, z⟩ <;> cases z
        · exact ht
      refine ⟨"tuple", "tuple.index", F.plainAttrs_tuple, F.slot_tuple_index, F.type_tuple_index, ⟨o, I.kIn _ _ k1, k2⟩, fun b e => by cases e; exact ⟨o, I.kIn _ _ k1, k6⟩, ?_⟩
      have z := ha n X W σ H r st α G _ S (h.bindL (Ext.refl _ _) fun _ g => g) cpos pins s I
      refine call_trees hs z (fun us s2 hq => ?_) fun e => ?_
      · obtain ⟨ws, H2, I2, rv, w, st2, α2, os2, p2, h2, _⟩ := hq
        obtain ⟨o, d, e, q⟩ := h2.ofD
        exact me_ok S.ok e rfl (Rep.ext p2.ext (fun _ g _ => g) _ rx) (p2.shared S.gf) p2.ws (fun v H' os pv => q v H' α2 os (pv.from p2.ext fun _ g => g)) pins σ s2 (.ref a) us I2 rfl rv
      · have e2 := h0 e
        subst e2
        have ev : evEs (T.P.env n) .nil r st = .ok (true, []) st := by unfold evEs; rfl
        rw [ev] at h
        refine ⟨[], H, I, .nil, (true, []), st, α, [], ⟨Ext.refl _ _, S.ws, repL_nil, fun _ z => (by cases z), List.nodup_nil⟩, h, ev⟩
    · exact h.elim
  · exact h.elim
end
end PD
/-! DDic: dicts -/
namespace PD
open PySem PySem.Spec PyProof.Rows L2
section
variable {T : Tab} {N : List Str} {sc : Scope}
theorem impl_dic0 {pos : Pos} : ImplE T N sc (.Dict [] [] pos) (.dic .nil .nil) := by
  intro n X W σ H r st α G Q S hs
  unfold evE evEs at hs
  refine wE.of pe_dnewK fun p hp => ?_
  have h1 : ∀ x H' α' os, Post X.K T.CT α H G st .all (.dic [] []) x H' α' os → Q x H' := hs
  refine h1 (.ref p) _ α [p] ⟨Ext.new hp, S.ws.new hp, ?_, fun a ha => by rw [List.mem_singleton.mp ha]; exact hp, by simp⟩
  show Rep X.K T.CT α (Gm G [p]) _ (.dic [] []) .all (.ref p) [p]
  unfold Rep
  refine ⟨p, [], [], rfl, S.ws.out hp, ?_, repL_nil, by rw [if_neg (by decide)]; exact ⟨upd_same, rfl⟩⟩
  first | exact trivial | rfl | (unfold keysR; trivial)
end
end PD
/-! DSv: sorted(d.values()) -/
namespace PD
open PySem PySem.Spec PyProof.Rows L2
section
variable {prog : Program} {w : World} {A : Around} {E : Value → Shared → Prop} {s : Shared} {Ty : String} {r d : Addr} {n : Nat} {P : Nat → Value → Prop} {OK : Heap → Prop}
/-- what a source of items gives -/
theorem collect_src {R : List Value → Shared → Prop} (K : PySem.W.KdlSrc prog w Ty r d n P OK) (hh : A.handled = none) (hok : OK s.heap) (hn : n ≤ sizeLine)
    (h : ∀ (h' : Heap) (tk : Nat) (vs : List Value), (∀ b o, s.heap.get? b = some o → h'.get? b = some o) → s.heap.objs.size < h'.objs.size → vs.length = n → (∀ (j : Nat) (v : Value), vs[j]? = some v → P j v) → R vs { s with heap := h', toks := tk }) :
    wpAny (model prog w) A (collect (.ref r)) R E s := by
  obtain ⟨hr, hd⟩ := K.there _ hok
  unfold collect
  refine wpAny_bind (wpAny_runValue (codeAny_builtin entry_proto_collect' ?_))
  rw [Around.under_plainId PySem.F.plain_proto_collect _]
  show wpAny _ A.in1 (newList [] >>= fun l => again (.builtin "list.__iadd__" ⟨[l, .ref r], []⟩)) _ _ s
  refine wpAny_bind (wpAny_newObj_type ?_)
  refine wpAny_pure ⟨plainId_quiet PySem.F.plain_list_iadd _, codeAny_builtin entry_list_iadd' ?_⟩
  rw [Around.under_plainId PySem.F.plain_list_iadd _]
  have hS : (s.heap.push { cls := .type "list", data := .seq ([] : List Value).toArray }).get? s.heap.objs.size = some { cls := .type "list", data := .seq #[] } := Heap.get?_push_size _ rfl
  show wpAny _ A.in1 (Builtin.List.listExtendWith (.ref s.heap.objs.size) (.ref r) (.ref s.heap.objs.size)) _ _ _
  have key := PySem.W.kdl_extend (prog := prog) (w := w) (A := A) (s := { s with heap := s.heap.push { cls := .type "list", data := .seq ([] : List Value).toArray } })
    (R := fun (q : Result) (s' : Shared) => ∃ (h' : Heap) (tk : Nat) (acc' : Array Value) (c' : Nat), q = .ok (.ret (.ref s.heap.objs.size)) ∧ s' = { s with heap := h', toks := tk } ∧
      (∀ b o, s.heap.get? b = some o → h'.get? b = some o) ∧ h'.get? s.heap.objs.size = some { cls := .type "list", dict := none, data := .seq acc' c', slots := #[] } ∧ ItemsOf P acc' n)
    K hh (K.keep _ _ hok fun b _ o e => Heap.get?_push_of_some _ e) s.heap.objs.size (Nat.ne_of_gt hr) (Nat.ne_of_gt hd) (.ref s.heap.objs.size) 0 hS
    (fun h' tk acc' c' hk hS' hacc => ⟨h', tk, acc', c', rfl, rfl, fun b o e => hk b o (Nat.ne_of_lt (Heap.lt_size e)) (Heap.get?_push_of_some _ e), hS', hacc⟩) hn
  have fin : ∀ (h' : Heap) (acc' : Array Value) (tk : Nat), (∀ b o, s.heap.get? b = some o → h'.get? b = some o) → s.heap.objs.size < h'.objs.size → ItemsOf P acc' n → R acc'.toList { s with heap := h', toks := tk } := fun h' acc' tk hk hl hacc =>
    h h' tk acc'.toList hk hl (by rw [Array.length_toList]; exact hacc.1) fun j v e => hacc.2 j v (by rw [← Array.getElem?_toList]; exact e)
  refine wpAny_mono key (fun q s' x => ?_) fun e s' x => ?_
  · cases q with
    | done f =>
      obtain ⟨h', tk, acc', c', e, rfl, hk, hS', hacc⟩ := x
      cases e
      show wpAny _ A (load s.heap.objs.size >>= _) _ _ _
      refine wpAny_bind (wpAny_load hS' ?_)
      exact wpAny_pure (fin h' acc' tk hk (Heap.lt_size hS') hacc)
    | again c₁ =>
      refine ⟨x.1, codeAny_mono x.2 fun q s₂ y => ?_⟩
      obtain ⟨h', tk, acc', c', rfl, rfl, hk, hS', hacc⟩ := y
      show wpAny _ A (load s.heap.objs.size >>= _) _ _ _
      refine wpAny_bind (wpAny_load hS' ?_)
      exact wpAny_pure (fin h' acc' tk hk (Heap.lt_size hS') hacc)
  · obtain ⟨_, _, _, _, e', _⟩ := x
    cases e'
/-- sorted of it, where its items are ints -/
theorem sorted_src {Q : Value → Shared → Prop} {ns : List Int} (K : PySem.W.KdlSrc prog w Ty r d n P OK) (hh : A.handled = none) (hok : OK s.heap) (hn : n < 64) (hP : ∀ vs : List Value, vs.length = n → (∀ (j : Nat) (v : Value), vs[j]? = some v → P j v) → IntsAre vs ns)
    (h : ∀ (h' : Heap) (tk : Nat) (L : Addr) (out : Array Value) (ns' : List Int) (ep : Nat), (∀ b o, s.heap.get? b = some o → h'.get? b = some o) → s.heap.objs.size ≤ L → IntsAre out.toList ns' → ns'.Perm ns → ns'.Pairwise (· ≤ ·) → h'.get? L = some { cls := .type "list", data := .seq out ep } → Q (.ref L) { s with heap := h', toks := tk }) :
    wpAny (model prog w) A (call (.builtin "sorted") [.ref r]) Q E s := by
  refine Calls.call_function_entry kind_sorted plain_sorted entry_sorted (args_sorted1 _) ?_
  unfold Builtin.«sorted»
  refine wpAny_bind (m := checkCount "sorted" 1 1 _) (wpAny_pure ?_)
  refine wpAny_bind (collect_src (A := A.in1) K hh hok (by rw [szl]; omega) fun h1 tk vs hk hlt hl hv => ?_)
  have hI := hP vs hl hv
  refine wpAny_bind (wpAny_newList ?_ (by rw [szl]; omega))
  have hoL : (h1.push (seqObj "list" vs.toArray 0)).get? h1.objs.size = some (seqObj "list" vs.toArray 0) := Heap.get?_push_size _ rfl
  refine wpAny_bind (wpAny_holding (wpAny_call_entry slot_list_sort ⟨_, hoL, rfl⟩ entry_list_sort (list_sort_tree hoL hI (by omega) fun out ns' a1 a2 a3 => ⟨_, rfl, ?_⟩) (args_list_sort _)))
  obtain ⟨ep, he⟩ := sortedHeap_at (vs := vs) (out := out) hoL
  refine wpAny_pure ⟨_, rfl, h _ tk h1.objs.size out ns' ep (fun b o e => ?_) (Nat.le_of_lt hlt) a1 a2 a3 he⟩
  have hb := hk b o e
  have lb := Heap.lt_size hb
  have hb2 := Heap.get?_push_of_some (seqObj "list" vs.toArray 0) hb
  rw [sortedHeap_old (Nat.ne_of_lt lb) (Heap.lt_size hb2)]
  exact hb2
end
/-! ### the order of ints -/
theorem insertI_perm (i : Int) : ∀ l : List Int, (insertI i l).Perm (i :: l)
  | [] => List.Perm.refl _
  | j :: js => by
    unfold insertI
    split
    · exact List.Perm.refl _
    · exact (List.Perm.cons j (insertI_perm i js)).trans (List.Perm.swap i j js)
theorem sortI_perm : ∀ l : List Int, (sortI l).Perm l
  | [] => List.Perm.refl _
  | i :: l => (insertI_perm i (sortI l)).trans (List.Perm.cons i (sortI_perm l))
theorem insertI_sorted (i : Int) : ∀ l : List Int, l.Pairwise (· ≤ ·) → (insertI i l).Pairwise (· ≤ ·)
  | [], _ => List.pairwise_singleton _ _
  | j :: js, h => by
    unfold insertI
    obtain ⟨h1, h2⟩ := List.pairwise_cons.mp h
    split
    · rename_i c
      refine List.pairwise_cons.mpr ⟨fun x hx => ?_, h⟩
      rcases List.mem_cons.mp hx with rfl | hx
      · exact c
      · exact Int.le_trans c (h1 x hx)
    · rename_i c
      refine List.pairwise_cons.mpr ⟨fun x hx => ?_, insertI_sorted i js h2⟩
      rcases List.mem_cons.mp ((insertI_perm i js).mem_iff.mp hx) with rfl | hx
      · omega
      · exact h1 x hx
theorem sortI_sorted : ∀ l : List Int, (sortI l).Pairwise (· ≤ ·)
  | [] => List.Pairwise.nil
  | i :: l => insertI_sorted i _ (sortI_sorted l)
theorem sorted_unique : ∀ {a b : List Int}, a.Perm b → a.Pairwise (· ≤ ·) → b.Pairwise (· ≤ ·) → a = b
  | [], b, p, _, _ => (List.Perm.nil_eq p)
  | x :: a, b, p, ha, hb => by
    cases b with
    | nil => exact absurd p.length_eq (by simp)
    | cons y b =>
      obtain ⟨a1, a2⟩ := List.pairwise_cons.mp ha
      obtain ⟨b1, b2⟩ := List.pairwise_cons.mp hb
      have e : x = y := by
        have h1 : x ∈ y :: b := p.mem_iff.mp List.mem_cons_self
        have h2 : y ∈ x :: a := p.mem_iff.mpr List.mem_cons_self
        rcases List.mem_cons.mp h1 with z | z
        · exact z
        · rcases List.mem_cons.mp h2 with w | w
          · exact w.symm
          · have := b1 x z
            have := a1 y w
            omega
      subst e
      rw [sorted_unique (List.Perm.cons_inv p) a2 b2]
theorem sorted_is {l l' : List Int} (p : l'.Perm l) (h : l'.Pairwise (· ≤ ·)) : l' = sortI l := sorted_unique (p.trans (sortI_perm l).symm) h (sortI_sorted l)
theorem vals_to_ints : ∀ {us : List Value} {l : List Int}, us.length = l.length → (∀ (j : Nat) (v : Value), us[j]? = some v → ∃ i t, l[j]? = some i ∧ v = .int i t) → IntsAre us l
  | [], [], _, _ => .nil
  | u :: us, i :: l, h, k => by
    obtain ⟨i', t, h1, rfl⟩ := k 0 u rfl
    cases h1
    exact .cons _ _ (vals_to_ints (by simpa using h) fun j v hj => by simpa using k (j + 1) v (by simpa using hj))
  | [], _ :: _, h, _ => by simp at h
  | _ :: _, [], h, _ => by simp at h
theorem repL_ints {K : PySem.W.Frag} {CT : CTab} {α : List Addr} {G : Addr → Prop} {H : Hp} {o : Own} : ∀ l : List Int, RepL K CT α G H (l.map D.int) o (l.map V.int) []
  | [] => repL_nil
  | i :: l => by
    rw [List.map_cons, List.map_cons]
    unfold RepL
    exact ⟨_, _, [], [], rfl, rfl, by unfold Rep; exact ⟨rfl, rfl⟩, repL_ints l⟩
theorem newO_ints {l : List Int} : newO (l.map D.int) = .all := by
  have : flatL (l.map D.int) = true := by
    induction l with
    | nil => rfl
    | cons i l ih => exact ih
  unfold newO
  rw [if_pos this]
section
variable {T : Tab} {N : List Str} {sc : Scope}
/-- sorted(d.values()), ints -/
theorem impl_sv {o : Expr} {o' : Ex} {x : Str} {p pos apos mpos : Pos} (hx : x = ("sorted" : Str)) (hg : sc.names.lookup ("sorted" : Str) = some .globalImplicit) (ho : ImplE T N sc o o') (hb : attrC o = true) (hline : (apos.endLine == mpos.line) = true) :
    ImplE T N sc (.Call (.Name x p) [.Call (.Attribute o "values" apos) [] [] mpos] [] pos) (.sv o') := by
  intro n X W σ H r st α G Q S h pins s I
  unfold evE at h
  subst hx
  have hc := S.ok.calm
  refine wpAny_Call_Name_kw (ld_blt I (Sit.gl hg S.ok) (S.ok.F.blt _ (by simp)) (u := .builtin "sorted") (by first | rfl | decide +kernel) ?_ (by decide) (by decide))
  have hse : starEach [Expr.Call (.Attribute o "values" apos) [] [] mpos] X.env = [(false, eval (Expr.Call (.Attribute o "values" apos) [] [] mpos) X.env)] := rfl
  rw [hse]
  refine PySem.callWith_builtin1 (wpAny_Call_method0_late (attrC_by hb _ _ _) hline (thn (ho n X W σ H r st α G _ S (h.bind (Ext.refl _ _) fun _ g => g) pins s I) fun u s1 ⟨y, H1, I1, ru, v, st1, α1, os1, p1, h1⟩ => ?_))
  have S1 := S.keep p1.ext p1.ws
  have rx := p1.shared S.gf
  obtain ⟨oo, dd, hsv, q⟩ := h1.ofD
  unfold svD at hsv
  split at hsv
  · rename_i ks vs hv
    obtain ⟨l, hl, hsv⟩ := Option.bind_eq_some_iff.mp hsv
    split at hsv
    · rename_i h64
      cases hsv
      rw [hv] at rx
      obtain ⟨a, kvs, rfl, ha, hks, hds, _⟩ := dic_of rx
      obtain rfl : u = .ref a := ru
      obtain ⟨eV, _⟩ := intsOf_rep hl hds
      obtain ⟨_, hsys, vs', rel, dof⟩ := dk_rd I1.hok ha
      obtain ⟨ep, dat⟩ := dof.dictAt
      have dat' := dat
      obtain ⟨ob, es, hob, ex, hdat, hko, hpr, hnd⟩ := dat'
      refine ⟨"dict", "dict.values", F.plainAttrs_dict, F.slot_dict_values, F.type_dict_values, ⟨ob, hob, ex.1⟩, fun b e => ?_, Calls.callWith_builtin rfl (PySem.evalArgs_none ?_)⟩
      · cases e
        exact ⟨ob, hob, ex.2.1⟩
      refine call_meetsIn F.slot_dict_values ⟨ob, hob, ex.1⟩ F.entry_dict_values (F.args_dict_values_1 _) (meets_dict_values (mixKind X.prog X.w) a hsys) ⟨⟨vs', dof⟩, ?_⟩
      have k1 : ∀ b u, s1.heap.get? b = some u → (s1.heap.push { cls := .type "dict_values", data := .fields #[.ref a] }).get? b = some u := fun b u e => Heap.get?_push_of_some _ e
      have dat1 : (s1.heap.push { cls := .type "dict_values", data := .fields #[.ref a] }).DictAt (mixKind X.prog X.w) a vs' ep := dat.keep k1
      have hlv : vs'.length = l.length := by
        have e1 := congrArg List.length eV
        rw [List.length_map, List.length_map] at e1
        rw [← e1]
        exact (KV.length rel).symm
      refine sorted_src (ns := l) (PySem.W.kdl_values (knd := mixKind X.prog X.w) (kvs := vs') (ep := ep) (r := s1.heap.objs.size) (d := a)) (I1.ok.hd hc) ⟨⟨_, Heap.get?_push_size _ rfl, rfl, rfl⟩, dat1⟩ (by rw [hlv]; exact h64) (fun us hu hP => ?_) fun h' tk L out ns' ep' hk hL hI hp hs ho' => ?_
      · refine vals_to_ints (by rw [hu, hlv]) fun j v hj => ?_
        obtain ⟨k, hk⟩ := hP j v hj
        obtain ⟨x, h2, h3⟩ := KV.at' rel hk
        have e1 : (kvs.map Prod.snd)[j]? = some x := by rw [List.getElem?_map, h2]; rfl
        rw [eV, List.getElem?_map] at e1
        obtain ⟨i, hi, e2⟩ := Option.map_eq_some_iff.mp e1
        subst e2
        obtain ⟨t, e3⟩ := h3
        exact ⟨i, t, hi, e3⟩
      · obtain rfl := sorted_is hp hs
        have hp0 : H1 L = none := I1.hok.fresh (Nat.le_trans (by rw [Heap.size_push]; omega) hL)
        have kk : ∀ b o, s1.heap.get? b = some o → h'.get? b = some o := fun b o e => hk b o (k1 b o e)
        refine ⟨.ref L, upd H1 L (.lst ((sortI l).map V.int)), I1.laid (t' := tk) kk (Nat.le_trans (by rw [Heap.size_push]; omega) hL) ⟨by rw [List.length_map, (sortI_perm l).length_eq, szl]; omega, out.toList, ep', vals_of_ints hI, by rw [Array.toArray_toList]; exact ho'⟩, rfl, q _ _ α1 [L] ?_⟩
        have z := Post.newL (K := X.K) (CT := T.CT) (st := st1) p1.ws S1.gf hp0 (ds := (sortI l).map D.int) (vs := (sortI l).map V.int) (repL_ints _)
        rw [newO_ints] at z
        exact z.from p1.ext fun _ g => g
    · cases hsv
  · cases hsv
end
end PD
/-! DLs: len(set(a)), a list of texts -/
namespace PD
open PySem PySem.Spec PyProof.Rows L2
/-- how many different ones -/
def difS : List Str → Nat
  | [] => 0
  | x :: xs => (if xs.any (· == x) then 0 else 1) + difS xs
theorem difS_snoc (x : Str) : ∀ l : List Str, difS (l ++ [x]) = if l.any (· == x) then difS l else difS l + 1
  | [] => rfl
  | y :: l => by
    show (if (l ++ [x]).any (· == y) then 0 else 1) + difS (l ++ [x]) = if (y :: l).any (· == x) then (if l.any (· == y) then 0 else 1) + difS l else (if l.any (· == y) then 0 else 1) + difS l + 1
    rw [difS_snoc x l, List.any_append, List.any_cons]
    by_cases e : y = x
    · subst e
      simp only [List.any_cons, List.any_nil, BEq.rfl, Bool.or_false, Bool.or_true, Bool.true_or, if_true]
      split <;> omega
    · have e1 : (x == y) = false := beq_eq_false_iff_ne.mpr fun z => e z.symm
      have e2 : (y == x) = false := beq_eq_false_iff_ne.mpr e
      simp only [List.any_cons, List.any_nil, e1, e2, Bool.or_false, Bool.false_or]
      split <;> split <;> omega
theorem difS_le : ∀ l : List Str, difS l ≤ l.length
  | [] => Nat.le_refl _
  | x :: xs => by
    show (if xs.any (· == x) then 0 else 1) + difS xs ≤ xs.length + 1
    have := difS_le xs
    split <;> omega
section
variable {prog : Program} {w : World} {A : Around} {R : Result → Shared → Prop} {I : Addr} {fp wr : List Addr} {G : Array GenState → Array GenState → Prop} {n : Nat} {P : Nat → Value → Prop} {St : Nat → Shared → Prop}
/-- the first i items are in the set -/
def Upto (prog : Program) (w : World) (S : Addr) (xs : List Str) (i : Nat) (h : Heap) : Prop := h.SetOf (PySem.strKind prog w) S (fun c => (xs.take i).any (· == c)) (difS (xs.take i))
theorem Upto.moved {S : Addr} {xs : List Str} {i : Nat} {h h' : Heap} (u : Upto prog w S xs i h) (k : ∀ o, h.get? S = some o → h'.get? S = some o) : Upto prog w S xs i h' := by
  obtain ⟨o, es, ep, tb, ho, rest⟩ := u
  exact ⟨o, es, ep, tb, k o ho, rest⟩
theorem set_gather (W : WalksS prog w A.in1 I fp wr G n P St) (S : Addr) (hSf : S ∉ fp) (xs : List Str) (hsz : xs.length = n) (hn : n + 1 < scanBound) (hval : ∀ i v, P i v → ∃ t, v = .str (xs.getD i Str.empty) t) :
    ∀ (k i : Nat) (s : Shared), n - i = k → i ≤ n → St i s → Upto prog w S xs i s.heap → (∀ s', Moved (S :: wr) G s s' → Upto prog w S xs n s'.heap → R (.ok (.ret .none)) s') →
      codeAny (model prog w) A (.builtin "set.update.loop" ⟨[.ref S, .ref I], []⟩) R s := by
  have hSw : S ∉ wr := fun z => hSf (W.sub _ z)
  intro k
  induction k with
  | zero =>
    intro i s hk hi hst hS hR
    obtain rfl : i = n := by omega
    refine codeAny_builtin PyProof.Rows.F.entry_set_update_loop ?_
    rw [Around.under_plainId PyProof.Rows.F.plain_set_update_loop _]
    show wpAny _ A.in1 (pyNext (.ref I) >>= _) _ _ s
    refine wpAny_bind (W.done s _ _ hst fun s' hm => ?_)
    show wpAny _ A.in1 (ret Value.none) _ _ s'
    exact wpAny_pure (hR s' (hm.mono fun b hb => List.mem_cons_of_mem _ hb) (hS.moved fun o ho => hm.heap S _ hSw ho))
  | succ k ih =>
    intro i s hk hi hst hS hR
    have hlt : i < n := by omega
    refine codeAny_builtin PyProof.Rows.F.entry_set_update_loop ?_
    rw [Around.under_plainId PyProof.Rows.F.plain_set_update_loop _]
    show wpAny _ A.in1 (pyNext (.ref I) >>= _) _ _ s
    refine wpAny_bind (W.item i s _ _ hlt hst fun v s' hP hst' hm => ?_)
    obtain ⟨t, rfl⟩ := hval i v hP
    have hS' := hS.moved (h' := s'.heap) fun o ho => hm.heap S _ hSw ho
    generalize hx : xs.getD i Str.empty = x
    have hxi : xs[i]? = some x := by
      rw [← hx, List.getD_eq_getElem?_getD, List.getElem?_eq_getElem (by omega)]
      rfl
    have ht : xs.take (i + 1) = xs.take i ++ [x] := by
      rw [List.take_succ, hxi]
      rfl
    have hd := difS_le (xs.take i)
    rw [List.length_take] at hd
    show wpAny _ A.in1 (holding [Value.str x t] (setAdd S (.str x t)) >>= _) _ _ s'
    refine wpAny_bind (wpAny_holding ?_)
    unfold setAdd
    refine wpAny_holding ?_
    refine wpAny_bind ((PySem.strKind prog w).pyHash (k := x) (strKind_is _ _ _ _) ?_)
    refine wpAny_setAddHashed_of (knd := PySem.strKind prog w) (s := { s' with toks := s'.toks + 1 }) (strKind_is _ _ _ _) rfl hS' (by omega) fun h' hsb hS2 => ?_
    have hSi : Upto prog w S xs (i + 1) h' := by
      unfold Upto
      rw [ht]
      refine SetOf_congr hS2 (fun c => ?_) (by rw [difS_snoc])
      rw [List.any_append, List.any_cons, List.any_nil, Bool.or_false]
      congr 1
      by_cases e : c = x
      · subst e; simp
      · have : (x == c) = false := beq_eq_false_iff_ne.mpr fun z => e z.symm
        simp [e, this]
    refine wpAny_pure ⟨plainId_quiet PyProof.Rows.F.plain_set_update_loop _, ih (i + 1) _ (by omega) hlt (W.frame _ s' _ _ hst' (Nat.le_succ _) fun b hb o e => ?_) hSi fun s'' hm'' hS'' => ?_⟩
    · rw [hsb.2 b (fun z : b = S => hSf (by rw [← z]; exact hb))]; exact e
    · refine hR s'' (Moved.trans W.gtrans ((hm.mono fun b hb => List.mem_cons_of_mem _ hb).then_heap (Nat.le_succ _) fun b o hb e => ?_) hm'') hS''
      rw [hsb.2 b (fun z : b = S => hb (by rw [z]; exact List.mem_cons_self))]; exact e
end
section
variable {prog : Program} {w : World} {A : Around} {E : Value → Shared → Prop} {s : Shared}
abbrev set0 (led : Bool) : Obj := { cls := .type "set", dict := none, data := .set #[] 0 (.fresh 0 0 led) }
/-- set(a list of texts) -/
theorem call_set_texts {l : Addr} {items : Array Value} {xs : List Str} {Q : Value → Shared → Prop} (hh : A.handled = none) (hl : s.heap.IsList l items) (hi : PyProof.Rows.StrsAre items.toList xs) (hn : xs.length + 1 < scanBound)
    (h : ∀ (h' : Heap) (tk : Nat), Upto prog w s.heap.objs.size xs xs.length h' → (∀ b o, b < s.heap.objs.size → s.heap.get? b = some o → h'.get? b = some o) → Q (.ref s.heap.objs.size) { s with heap := h', toks := tk }) :
    wpAny (model prog w) A (call (.type "set") [.ref l]) Q E s := by
  obtain ⟨c, tl, hmro⟩ := PySem.F.called_set.mro
  have f1 := PySem.F.called_set.made
  have f2 := PySem.F.called_set.sub
  refine wpAny_call (codeAny_of_tree ?_)
  show wpAny _ _ (callAny (.type "set") _) _ _ _
  refine wpAny_pure ⟨Code.quiet_builtin _ (by decide +kernel), codeAny_builtin PySem.F.entry_type_call ?_⟩
  rw [Around.under_plain (weight_type_call_type "set" [.ref l] []) rfl]
  have f3 := PySem.F.called_set.notType
  have f4 := PySem.F.called_set.canCreate
  have f5 := PySem.F.typeCall_set_1 (.ref l)
  repeat (any_goals (first | assumption | wp_step))
  refine codeAny_mono (code_set_new_1 (.ref l) (E := E) (Q₁ := fun obj s₁ => ∃ led : Bool, obj = .ref s.heap.objs.size ∧ s₁ = { s with heap := s.heap.push (set0 led) }) fun led => ⟨led, rfl, rfl⟩) fun r s₁ hr => ?_
  cases r with
  | error e => exact hr
  | ok fl =>
    cases fl with
    | ret obj =>
      obtain ⟨led, rfl, rfl⟩ := hr
      have hS : (s.heap.push (set0 led)).get? s.heap.objs.size = some (set0 led) := Heap.get?_push_size _ rfl
      have hT : Shared.TypeIs { s with heap := s.heap.push (set0 led) } (.ref s.heap.objs.size) "set" := ⟨_, hS, rfl⟩
      have f6 := PySem.F.called_set.init.lookup
      have f7 := PySem.F.called_set.init.bind (.ref s.heap.objs.size)
      repeat (any_goals (first | assumption | wp_step))
      refine codeAny_mono (codeAny_call_builtin (R := wants (fun r s₂ => r = .none ∧ ∃ h' tk, s₂ = { s with heap := h', toks := tk } ∧ Upto prog w s.heap.objs.size xs xs.length h' ∧
          (∀ b o, b < s.heap.objs.size → s.heap.get? b = some o → h'.get? b = some o)) E) PySem.F.called_set.init.plain PySem.F.entry_set_init (check_set_init_1 hT ?_)) fun r₂ s₂ hr₂ => ?_
      · obtain ⟨⟨oc, od, oo, os⟩, hol, hcl, nl, hdl⟩ := hl
        simp only at hcl hdl
        subst hcl; subst hdl
        have g1 : (s.heap.push (set0 led)).get? l = some { cls := .type "list", dict := od, data := .seq items nl, slots := os } := Heap.get?_push_of_some _ hol
        have f8 := PySem.F.sub_list_set
        have f9 := PySem.F.sub_list_frozenset
        have f10 : (Value.type "list" == Value.type "dict") = false := by decide
        have g2 : (s.heap.push (set0 led)).IsList l items := ⟨_, g1, rfl, nl, rfl⟩
        unfold Builtin.«set.__init__» noKeywords Builtin.Frozenset.updateFrom
        generalize hPI : pyIter = PI
        wp_walk
        subst hPI
        refine wpAny_pyIter_list g2 ?_
        refine wpAny_bind (wpAny_runValue ?_)
        have lt := Heap.lt_size hol
        have sz : (s.heap.push (set0 led)).objs.size = s.heap.objs.size + 1 := Heap.size_push ..
        have hh3 : A.in1.in1.in1.handled = none := by simp [hh]
        have hne : l ≠ (s.heap.push (set0 led)).objs.size := by rw [sz]; exact Nat.ne_of_lt (Nat.lt_succ_of_lt lt)
        have hSf : s.heap.objs.size ∉ [(s.heap.push (set0 led)).objs.size, l] := by
          rw [sz]
          simp only [List.mem_cons, List.not_mem_nil, or_false, not_or]
          exact ⟨Nat.ne_of_lt (Nat.lt_succ_self _), Nat.ne_of_gt lt⟩
        have hsz : xs.length = items.size := by rw [← StrsAre.len_eq hi, Array.length_toList]
        have hval : ∀ (i : Nat) (v : Value), items[i]? = some v → ∃ t, v = .str (xs.getD i Str.empty) t := fun i v hv => SS.strs_at hi i v (by rw [Array.getElem?_toList]; exact hv)
        refine set_gather ((Walks.list hh3 _ l hne items).toS) s.heap.objs.size hSf xs hsz (by omega) hval (items.size - 0) 0 _ (by omega) (Nat.zero_le _) ⟨⟨_, Heap.get?_push_size _ rfl, rfl, rfl⟩, g2.push _⟩ ?_ fun s' hm hS' => ?_
        · have hget := Heap.get?_push_of_some { cls := .type "list_iterator", data := .fields #[.ref l, .int 0 0] } hS
          exact PyProof.Rows.SetOf_congr ((PyProof.Rows.setObjOf_fresh (knd := PySem.strKind prog w) led).setOf hget (by unfold scanBound; omega)) (fun _ => rfl) rfl
        · obtain ⟨h', g', d', tk', os'⟩ := s'
          obtain rfl : g' = s.gens := hm.gens
          obtain rfl : d' = s.drawn := hm.drawn
          obtain rfl : os' = s.os := hm.os
          show wpAny _ _ _ _ _ _
          refine wpAny_pure ?_
          show wpAny _ _ (ret Value.none) _ _ _
          rw [← hsz] at hS'
          refine wpAny_pure ⟨rfl, h', tk', rfl, hS', fun b o hb e => ?_⟩
          refine hm.heap b o ?_ (Heap.get?_push_of_some _ (Heap.get?_push_of_some _ e))
          rw [sz]
          simp only [List.mem_cons, List.not_mem_nil, or_false, not_or]
          exact ⟨Nat.ne_of_lt hb, Nat.ne_of_lt (Nat.lt_succ_of_lt hb)⟩
      · cases r₂ with
        | error e => exact hr₂
        | ok fl₂ =>
          cases fl₂ with
          | ret r =>
            obtain ⟨rfl, h', tk, rfl, hS', hk'⟩ := hr₂
            repeat (any_goals (first | assumption | wp_step))
            exact h _ _ hS' hk'
          | _ => exact hr₂.elim
    | _ => exact hr.elim
end
theorem difS_is : ∀ l : List (List Nat), difS (l.map toStr) = diffN l
  | [] => rfl
  | x :: xs => by
    show (if (xs.map toStr).any (· == toStr x) then 0 else 1) + difS (xs.map toStr) = (if xs.contains x then 0 else 1) + diffN xs
    rw [difS_is xs]
    have e : (xs.map toStr).any (· == toStr x) = xs.contains x := by
      rw [List.any_map, Bool.eq_iff_iff, List.any_eq_true, List.contains_iff_mem]
      constructor
      · rintro ⟨y, hy, e⟩
        have e : toStr y = toStr x := by simpa using e
        rw [← toStr_inj.mp e]
        exact hy
      · exact fun h => ⟨x, h, by simp⟩
    rw [e]
end PD
/-! DLt: len(set(a)), a text or a list of texts -/
namespace PD
open PySem PySem.Spec PyProof.Rows L2
section
variable {prog : Program} {w : World} {A : Around} {E : Value → Shared → Prop} {s : Shared}
/-- the signs of a text -/
def signsOf (t : Str) : List Str := t.cps.toList.map fun c => ⟨#[c]⟩
/-- set(a text) -/
theorem call_set_text {t : Str} {tk0 : Tok} {Q : Value → Shared → Prop} (hh : A.handled = none) (hn : t.cps.size + 1 < scanBound)
    (h : ∀ (h' : Heap) (tk : Nat), Upto prog w s.heap.objs.size (signsOf t) t.cps.size h' → (∀ b o, b < s.heap.objs.size → s.heap.get? b = some o → h'.get? b = some o) → Q (.ref s.heap.objs.size) { s with heap := h', toks := tk }) :
    wpAny (model prog w) A (call (.type "set") [.str t tk0]) Q E s := by
  obtain ⟨c, tl, hmro⟩ := PySem.F.called_set.mro
  have f1 := PySem.F.called_set.made
  have f2 := PySem.F.called_set.sub
  refine wpAny_call (codeAny_of_tree ?_)
  show wpAny _ _ (callAny (.type "set") _) _ _ _
  refine wpAny_pure ⟨Code.quiet_builtin _ (by decide +kernel), codeAny_builtin PySem.F.entry_type_call ?_⟩
  rw [Around.under_plain (weight_type_call_type "set" [.str t tk0] []) rfl]
  have f3 := PySem.F.called_set.notType
  have f4 := PySem.F.called_set.canCreate
  have f5 := PySem.F.typeCall_set_1 (.str t tk0)
  repeat (any_goals (first | assumption | wp_step))
  refine codeAny_mono (code_set_new_1 (.str t tk0) (E := E) (Q₁ := fun obj s₁ => ∃ led : Bool, obj = .ref s.heap.objs.size ∧ s₁ = { s with heap := s.heap.push (set0 led) }) fun led => ⟨led, rfl, rfl⟩) fun r s₁ hr => ?_
  cases r with
  | error e => exact hr
  | ok fl =>
    cases fl with
    | ret obj =>
      obtain ⟨led, rfl, rfl⟩ := hr
      have hS : (s.heap.push (set0 led)).get? s.heap.objs.size = some (set0 led) := Heap.get?_push_size _ rfl
      have hT : Shared.TypeIs { s with heap := s.heap.push (set0 led) } (.ref s.heap.objs.size) "set" := ⟨_, hS, rfl⟩
      have f6 := PySem.F.called_set.init.lookup
      have f7 := PySem.F.called_set.init.bind (.ref s.heap.objs.size)
      repeat (any_goals (first | assumption | wp_step))
      refine codeAny_mono (codeAny_call_builtin (R := wants (fun r s₂ => r = .none ∧ ∃ h' tk, s₂ = { s with heap := h', toks := tk } ∧ Upto prog w s.heap.objs.size (signsOf t) t.cps.size h' ∧
          (∀ b o, b < s.heap.objs.size → s.heap.get? b = some o → h'.get? b = some o)) E) PySem.F.called_set.init.plain PySem.F.entry_set_init (check_set_init_1 hT ?_)) fun r₂ s₂ hr₂ => ?_
      · have f8 := PySem.F.sub_str_set
        have f9 := PySem.F.sub_str_frozenset
        have f10 : (Value.type "str" == Value.type "dict") = false := by decide
        unfold Builtin.«set.__init__» noKeywords Builtin.Frozenset.updateFrom
        generalize hPI : pyIter = PI
        wp_walk
        subst hPI
        have sz : (s.heap.push (set0 led)).objs.size = s.heap.objs.size + 1 := Heap.size_push ..
        have hh3 : A.in1.in1.in1.handled = none := by simp [hh]
        have hSf : s.heap.objs.size ∉ [(s.heap.push (set0 led)).objs.size] := by
          rw [sz]
          simp only [List.mem_cons, List.not_mem_nil, or_false]
          exact Nat.ne_of_lt (Nat.lt_succ_self _)
        have hval : ∀ (i : Nat) (v : Value), PySem.SignAt t i v → ∃ tk, v = .str ((signsOf t).getD i Str.empty) tk := fun i v hv => by
          obtain ⟨c, tk, hc, rfl⟩ := hv
          refine ⟨tk, ?_⟩
          have : (signsOf t)[i]? = some ⟨#[c]⟩ := by
            unfold signsOf
            rw [List.getElem?_map, Array.getElem?_toList, hc]
            rfl
          rw [List.getD_eq_getElem?_getD, this]
          rfl
        have hl : (signsOf t).length = t.cps.size := by unfold signsOf; rw [List.length_map, Array.length_toList]
        cases ha : t.cps.all (· < 128)
        · refine wpAny_pyIter_wide ha ?_
          refine wpAny_bind (wpAny_runValue ?_)
          refine set_gather ((Walks.strWide hh3 _ t tk0).toS) s.heap.objs.size hSf (signsOf t) hl hn hval (t.cps.size - 0) 0 _ (by omega) (Nat.zero_le _) ⟨_, Heap.get?_push_size _ rfl, rfl, rfl⟩ ?_ fun s' hm hS' => ?_
          · have hget := Heap.get?_push_of_some { cls := .type "str_iterator", data := .fields #[.str t tk0, .int 0 0] } hS
            exact PyProof.Rows.SetOf_congr ((PyProof.Rows.setObjOf_fresh (knd := PySem.strKind prog w) led).setOf hget (by unfold scanBound; omega)) (fun _ => rfl) rfl
          · obtain ⟨h', g', d', tk', os'⟩ := s'
            obtain rfl : g' = s.gens := hm.gens
            obtain rfl : d' = s.drawn := hm.drawn
            obtain rfl : os' = s.os := hm.os
            show wpAny _ _ _ _ _ _
            refine wpAny_pure ?_
            show wpAny _ _ (ret Value.none) _ _ _
            refine wpAny_pure ⟨rfl, h', tk', rfl, hS', fun b o hb e => ?_⟩
            refine hm.heap b o ?_ (Heap.get?_push_of_some _ (Heap.get?_push_of_some _ e))
            rw [sz]
            simp only [List.mem_cons, List.not_mem_nil, or_false, not_or]
            exact ⟨Nat.ne_of_lt hb, Nat.ne_of_lt (Nat.lt_succ_of_lt hb)⟩
        · refine wpAny_pyIter_ascii ha ?_
          refine wpAny_bind (wpAny_runValue ?_)
          refine set_gather ((Walks.strAscii hh3 _ t tk0).toS) s.heap.objs.size hSf (signsOf t) hl hn hval (t.cps.size - 0) 0 _ (by omega) (Nat.zero_le _) ⟨_, Heap.get?_push_size _ rfl, rfl, rfl⟩ ?_ fun s' hm hS' => ?_
          · have hget := Heap.get?_push_of_some { cls := .type "str_ascii_iterator", data := .fields #[.str t tk0, .int 0 0] } hS
            exact PyProof.Rows.SetOf_congr ((PyProof.Rows.setObjOf_fresh (knd := PySem.strKind prog w) led).setOf hget (by unfold scanBound; omega)) (fun _ => rfl) rfl
          · obtain ⟨h', g', d', tk', os'⟩ := s'
            obtain rfl : g' = s.gens := hm.gens
            obtain rfl : d' = s.drawn := hm.drawn
            obtain rfl : os' = s.os := hm.os
            show wpAny _ _ _ _ _ _
            refine wpAny_pure ?_
            show wpAny _ _ (ret Value.none) _ _ _
            refine wpAny_pure ⟨rfl, h', tk', rfl, hS', fun b o hb e => ?_⟩
            refine hm.heap b o ?_ (Heap.get?_push_of_some _ (Heap.get?_push_of_some _ e))
            rw [sz]
            simp only [List.mem_cons, List.not_mem_nil, or_false, not_or]
            exact ⟨Nat.ne_of_lt hb, Nat.ne_of_lt (Nat.lt_succ_of_lt hb)⟩
      · cases r₂ with
        | error e => exact hr₂
        | ok fl₂ =>
          cases fl₂ with
          | ret r =>
            obtain ⟨rfl, h', tk, rfl, hS', hk'⟩ := hr₂
            repeat (any_goals (first | assumption | wp_step))
            exact h _ _ hS' hk'
          | _ => exact hr₂.elim
    | _ => exact hr.elim
end
section
variable {T : Tab} {N : List Str} {sc : Scope}
/-- len(set(a)), a text or a list of texts -/
theorem impl_ls {a : Expr} {a' : Ex} {x x2 : Str} {p p2 q pos : Pos} (hx : x = ("len" : Str)) (hx2 : x2 = ("set" : Str)) (hg : sc.names.lookup ("len" : Str) = some .globalImplicit) (hg2 : sc.names.lookup ("set" : Str) = some .globalImplicit) (ha : ImplE T N sc a a') (hs : noStar a = true) :
    ImplE T N sc (.Call (.Name x p) [.Call (.Name x2 p2) [a] [] q] [] pos) (.ls a') := by
  intro n X W σ H r st α G Q S h pins s I
  unfold evE at h
  subst hx hx2
  refine Call_ (ld_blt I (Sit.gl hg S.ok) (S.ok.F.blt _ (by simp)) (boot_bi .len) ?_)
  refine PyProof.Rows.callWith_builtin1 (PyProof.Rows.args_cons ?_ rfl) rfl rfl
  refine Call_ (ld_blt I (Sit.gl hg2 S.ok) (S.ok.F.blt _ (by simp)) (u := .type "set") (by first | rfl | decide +kernel) ?_)
  refine PyProof.Rows.callWith_type1 (PyProof.Rows.args_cons (thn (ha n X W σ H r st α G _ S (h.bind (Ext.refl _ _) fun _ g => g) pins s I) fun u s1 ⟨y, H1, I1, ru, v, st1, α1, os1, p1, h1⟩ => PyProof.Rows.args_nil ?_) (star_of hs [] X.env)) (star_of hs [] X.env) rfl
  have S1 := S.keep p1.ext p1.ws
  have rx := p1.shared S.gf
  obtain ⟨oo, dd, hls, qq⟩ := h1.ofD
  unfold lsD at hls
  have fin : ∀ (l : List (List Nat)) (xs : List Str) (h' : Heap) (tk : Nat), xs = l.map toStr → l.length ≤ 2000 → (Own.all, D.int (diffN l : Nat)) = (oo, dd) → Upto X.prog X.w s1.heap.objs.size xs xs.length h' → (∀ b o, b < s1.heap.objs.size → s1.heap.get? b = some o → h'.get? b = some o) →
      wpAny (model X.prog X.w) X.A (call (.builtin "len") [.ref s1.heap.objs.size]) (EP X pins σ Q) X.xe { s1 with heap := h', toks := tk } := by
    intro l xs h' tk e h2 e2 hS hk
    subst e
    cases e2
    unfold Upto at hS
    rw [List.take_length, difS_is] at hS
    obtain ⟨o, es, ep, t, ho, hex, hd, _, _, _, hf, hn⟩ := hS
    have I2 : Inv X pins σ H1 { s1 with heap := h', toks := tk } := I1.kept fun b o e => hk b o (Heap.lt_size e) e
    have hle := difS_le (l.map toStr)
    rw [difS_is, List.length_map] at hle
    refine call_len_set ho hex hd hf (by rw [hn]; omega) ⟨.int (diffN l : Nat), H1, I2.tok _, ⟨_, by rw [hn]⟩, qq _ _ α1 [] ?_⟩
    exact (Post.int p1.ws).from p1.ext fun _ g => g
  split at hls
  · rename_i xs hv
    obtain ⟨l, hl, hls⟩ := Option.bind_eq_some_iff.mp hls
    split at hls
    · rename_i h2
      rw [hv] at rx
      obtain ⟨b, vs, rfl, hb, rl, nb, gb⟩ := lst_of rx
      obtain rfl : u = .ref b := ru
      obtain ⟨rfl, _⟩ := strsOf_rep hl rl
      obtain ⟨its, rv, pl, hz⟩ := I1.list (.inl (.inl hb))
      refine call_set_texts (xs := l.map toStr) (I1.ok.hd S.ok.calm) pl.isList (by simpa using L2.strsAre_of rv) (by rw [List.length_map]; unfold scanBound; omega) fun h' tk hS hk => PyProof.Rows.args_nil (fin l _ h' tk rfl h2 (Option.some.inj hls) hS hk)
    · cases hls
  · rename_i t hv
    split at hls
    · rename_i h2
      rw [hv] at rx
      rw [rep_str rx] at ru
      obtain ⟨tk0, rfl⟩ := ru
      have el : signsOf (toStr t) = (t.map fun c => [c]).map toStr := by
        unfold signsOf
        rw [show (toStr t).cps.toList = t by simp [toStr], List.map_map]
        rfl
      have es : (toStr t).cps.size = (signsOf (toStr t)).length := by unfold signsOf; rw [List.length_map, Array.length_toList]
      refine call_set_text (I1.ok.hd S.ok.calm) (by rw [show (toStr t).cps.size = t.length from toStr_len t]; unfold scanBound; omega) fun h' tk hS hk => PyProof.Rows.args_nil (fin (t.map fun c => [c]) _ h' tk el (by rw [List.length_map]; exact h2) (Option.some.inj hls) (by rw [← es]; exact hS) hk)
    · cases hls
  · cases hls
end
end PD
/-! DKg: what stands for a tree still does where its own objects are kept -/
namespace PD
open PySem PySem.Spec PyProof.Rows L2
/-- what never changes -/
def Fix : HO → Prop
  | .tup _ => True
  | .frz _ _ => True
  | _ => False
/-- the objects that P tells, and those that never change, are kept -/
structure KG (P : Addr → Prop) (α : List Addr) (H : Hp) (α' : List Addr) (H' : Hp) : Prop where
  kp : ∀ a u, a ∉ α → H a = some u → P a ∨ Fix u → H' a = some u
  al : ∃ β, α' = α ++ β ∧ ∀ a ∈ β, H a = none
  tr : ∀ a u, H a = some u → ∃ u', H' a = some u'
section
variable {K : PySem.W.Frag} {CT : CTab} {α α' : List Addr} {G G' P : Addr → Prop} {H H' : Hp}
theorem KG.of (e : Ext α H α' H') : KG P α H α' H' := ⟨fun a u n h _ => e.kp a u n h, e.al, fun a u h => e.tr h⟩
theorem KG.out (e : KG P α H α' H') {a : Addr} (h : a ∉ α) (t : ∃ u, H a = some u) : a ∉ α' := by
  obtain ⟨β, rfl, hb⟩ := e.al
  obtain ⟨u, hu⟩ := t
  intro z
  rcases List.mem_append.mp z with z | z
  · exact h z
  · rw [hb a z] at hu; cases hu
theorem KG.ix (e : KG P α H α' H') {n : Nat} {a : Addr} (h : α[n]? = some a) : α'[n]? = some a := by
  obtain ⟨β, rfl, hb⟩ := e.al
  rw [List.getElem?_append_left (List.getElem?_eq_some_iff.mp h).1]
  exact h
theorem KG.fresh (e : KG P α H α' H') {a : Addr} (h : H' a = none) : H a = none := by
  cases q : H a with
  | none => rfl
  | some u =>
    obtain ⟨u', h'⟩ := e.tr a u q
    rw [h] at h'; cases h'
theorem KG.trans {α2 : List Addr} {H2 : Hp} (e : KG P α H α' H') (e' : KG P α' H' α2 H2) : KG P α H α2 H2 := by
  refine ⟨fun a u n h p => e'.kp a u (e.out n ⟨u, h⟩) (e.kp a u n h p) p, ?_, fun a u h => ?_⟩
  · obtain ⟨β, rfl, hb⟩ := e.al
    obtain ⟨γ, rfl, hc⟩ := e'.al
    refine ⟨β ++ γ, by simp, fun a ha => ?_⟩
    rcases List.mem_append.mp ha with z | z
    · exact hb a z
    · exact e.fresh (hc a z)
  · obtain ⟨u', h'⟩ := e.tr a u h
    exact e'.tr a u' h'
theorem KG.mono {P' : Addr → Prop} (e : KG P α H α' H') (h : ∀ a, P' a → (∃ u, H a = some u) → P a) : KG P' α H α' H' := ⟨fun a u n ha p => e.kp a u n ha (p.imp (fun q => h a q ⟨u, ha⟩) id), e.al, e.tr⟩
/-- one object is written -/
theorem KG.upd {p : Addr} {o : HO} (hp : ¬ P p) (hf : ∀ u, H p = some u → ¬ Fix u) : KG P α H α (upd H p o) :=
  ⟨fun a u _ h q => by rw [upd_ne (fun z => by subst z; exact q.elim hp (hf u h))]; exact h, ⟨[], by simp, by simp⟩, fun a u h => by
    by_cases z : a = p
    · exact ⟨o, by rw [z]; exact upd_same⟩
    · exact ⟨u, by rw [upd_ne z]; exact h⟩⟩
theorem Rd.kg (e : KG P α H α' H') {a : Addr} {u : HO} (n : a ∉ α) (p : P a ∨ Fix u) (h : Rd H a u) : Rd H' a u :=
  h.elim (fun h => .inl (e.kp a _ n h p)) fun ⟨o, h⟩ => .inr ⟨o, e.kp a _ n h (.inr trivial)⟩
theorem TupAt.kg (e : KG P α H α' H') {a : Addr} {xs : List V} (h : TupAt K α H a xs) : TupAt K α' H' a xs :=
  h.elim (fun ⟨h, n⟩ => .inl ⟨Rd.kg e n (.inr trivial) h, e.out n (Rd.tracked h)⟩) .inr
theorem InsAt.kg (e : KG P α H α' H') {c : Nat} {a dx : Addr} {us : List V} (na : a ∉ α) (nd : dx ∉ α) (pa : P a) (pd : P dx) (h : InsAt CT H c a dx us) : InsAt CT H' c a dx us := by
  unfold InsAt at h ⊢
  split
  · rename_i q
    rw [if_pos q] at h
    obtain ⟨vs, h, hdx, k⟩ := h
    refine ⟨vs, ?_, hdx.imp (fun z => e.kp _ _ nd z (.inl pd)) (fun z => e.kp _ _ nd z (.inl pd)), k⟩
    rcases h with ⟨h1, h2⟩ | ⟨h1, h2⟩
    · exact .inl ⟨e.kp _ _ na h1 (.inl pa), h2⟩
    · exact .inr ⟨e.kp _ _ na h1 (.inl pa), e.kp _ _ nd h2 (.inl pd)⟩
  · rename_i q
    rw [if_neg q] at h
    exact ⟨e.kp _ _ na h.1 (.inl pa), h.2⟩
mutual
theorem Rep.kg (e : KG P α H α' H') (hG : ∀ a, G a → (∃ u, H a = some u) → G' a ∧ P a) : ∀ (d : D) {o : Own} {v : V} {os : List Addr}, (∀ a ∈ os, P a) → Rep K CT α G H d o v os → Rep K CT α' G' H' d o v os
  | .non, _, _, _, _, h => by unfold Rep at h ⊢; exact h
  | .bl _, _, _, _, _, h => by unfold Rep at h ⊢; exact h
  | .int _, _, _, _, _, h => by unfold Rep at h ⊢; exact h
  | .str _, _, _, _, _, h => by unfold Rep at h ⊢; exact h
  | .hnd n, _, _, _, _, h => by
    unfold Rep at h ⊢
    obtain ⟨⟨a, h1, h2⟩, h3⟩ := h
    exact ⟨⟨a, e.ix h1, h2⟩, h3⟩
  | .scr xs, _, _, _, _, h => by
    unfold Rep at h ⊢
    obtain ⟨⟨a, h1, h2⟩, h3⟩ := h
    refine ⟨⟨a, h1, ?_⟩, h3⟩
    rcases h2 with ⟨r, n, g⟩ | h2
    · have p := hG a g (Rd.tracked r)
      exact .inl ⟨Rd.kg e n (.inl p.2) r, e.out n (Rd.tracked r), p.1⟩
    · exact .inr h2
  | .tup xs, _, _, _, ho, h => by
    unfold Rep at h ⊢
    obtain ⟨a, vs, h1, h2, h3⟩ := h
    exact ⟨a, vs, h1, h2.kg e, RepL.kg e hG xs ho h3⟩
  | .lst xs, o, _, _, ho, h => by
    unfold Rep at h ⊢
    obtain ⟨a, vs, os', h1, h2, h3, h4⟩ := h
    split at h4
    · obtain ⟨g, r, q⟩ := h4
      subst q
      refine ⟨a, vs, _, h1, e.out h2 ⟨_, r⟩, RepL.kg e hG xs ho h3, ?_⟩
      rename_i z
      rw [if_pos z]
      exact ⟨(hG a g ⟨_, r⟩).1, e.kp _ _ h2 r (.inl (hG a g ⟨_, r⟩).2), rfl⟩
    · obtain ⟨r, q⟩ := h4
      subst q
      refine ⟨a, vs, _, h1, e.out h2 ⟨_, r⟩, RepL.kg e hG xs (fun b hb => ho b (List.mem_cons_of_mem _ hb)) h3, ?_⟩
      rename_i z
      rw [if_neg z]
      exact ⟨e.kp _ _ h2 r (.inl (ho a List.mem_cons_self)), rfl⟩
  | .dic ks ds, o, _, _, ho, h => by
    unfold Rep at h ⊢
    obtain ⟨a, kvs, os', h1, h2, hk, h3, h4⟩ := h
    split at h4
    · obtain ⟨g, r, q⟩ := h4
      subst q
      refine ⟨a, kvs, _, h1, e.out h2 (Rd.tracked r), hk, RepL.kg e hG ds ho h3, ?_⟩
      rename_i z
      rw [if_pos z]
      exact ⟨(hG a g (Rd.tracked r)).1, Rd.kg e h2 (.inl (hG a g (Rd.tracked r)).2) r, rfl⟩
    · obtain ⟨r, q⟩ := h4
      subst q
      refine ⟨a, kvs, _, h1, e.out h2 ⟨_, r⟩, hk, RepL.kg e hG ds (fun b hb => ho b (List.mem_cons_of_mem _ hb)) h3, ?_⟩
      rename_i z
      rw [if_neg z]
      exact ⟨e.kp _ _ h2 r (.inl (ho a List.mem_cons_self)), rfl⟩
  | .ins c fs, o, _, _, ho, h => by
    unfold Rep at h ⊢
    obtain ⟨a, dx, us, os', h1, h2, h3, hne, ⟨ua, ta⟩, ⟨ud, td⟩, h4, h5, h6⟩ := h
    obtain ⟨ua', ta'⟩ := e.tr a ua ta
    obtain ⟨ud', td'⟩ := e.tr dx ud td
    split at h6
    · obtain ⟨g1, g2, q⟩ := h6
      subst q
      have p1 := hG a g1 ⟨_, ta⟩
      have p2 := hG dx g2 ⟨_, td⟩
      refine ⟨a, dx, us, _, h1, e.out h2 ⟨_, ta⟩, e.out h3 ⟨_, td⟩, hne, ⟨_, ta'⟩, ⟨_, td'⟩, h4.kg e h2 h3 p1.2 p2.2, RepL.kg e hG fs ho h5, ?_⟩
      rename_i z
      rw [if_pos z]
      exact ⟨p1.1, p2.1, rfl⟩
    · subst h6
      refine ⟨a, dx, us, _, h1, e.out h2 ⟨_, ta⟩, e.out h3 ⟨_, td⟩, hne, ⟨_, ta'⟩, ⟨_, td'⟩, h4.kg e h2 h3 (ho a List.mem_cons_self) (ho dx (List.mem_cons_of_mem _ List.mem_cons_self)), RepL.kg e hG fs (fun b hb => ho b (List.mem_cons_of_mem _ (List.mem_cons_of_mem _ hb))) h5, ?_⟩
      rename_i z
      rw [if_neg z]
theorem RepL.kg (e : KG P α H α' H') (hG : ∀ a, G a → (∃ u, H a = some u) → G' a ∧ P a) : ∀ (ds : List D) {o : Own} {vs : List V} {os : List Addr}, (∀ a ∈ os, P a) → RepL K CT α G H ds o vs os → RepL K CT α' G' H' ds o vs os
  | [], _, _, _, _, h => by unfold RepL at h ⊢; exact h
  | d :: ds, _, _, _, ho, h => by
    unfold RepL at h ⊢
    obtain ⟨v, r, os1, os2, h1, h2, h3, h4⟩ := h
    subst h2
    exact ⟨v, r, os1, os2, h1, rfl, Rep.kg e hG d (fun a ha => ho a (List.mem_append_left _ ha)) h3, RepL.kg e hG ds (fun a ha => ho a (List.mem_append_right _ ha)) h4⟩
end
end
end PD
/-! DIt: what is walked; targets -/
namespace PD
open PySem PySem.Spec PyProof.Rows L2
/-- J walks the trees xs while what G tells is kept -/
def WalkD (K : PySem.W.Frag) (CT : CTab) (G : Addr → Prop) (α : List Addr) (H : Hp) (J : L2.It) (xs : List D) : Prop :=
  ∃ (Gd : Hp → Prop) (Y : Nat → Hp → V → Hp → Prop), Walk J xs.length Gd Y ∧ (∀ α2 H2, KG G α H α2 H2 → Gd H2) ∧
    ∀ (i : Nat) (x : V) (α2 : List Addr) (H2 H3 : Hp) (G2 : Addr → Prop), i < xs.length → KG G α H α2 H2 → (∀ a ∈ α2, ∃ u, H2 a = some u) → (∀ a, G a → (∃ u, H a = some u) → G2 a) → Y i H2 x H3 → ∃ d, xs[i]? = some d ∧ Ext α2 H2 α2 H3 ∧ Rep K CT α2 G2 H3 d .no x [] ∧ (H3 = H2 ∨ ∃ T vs, H2 T = none ∧ H3 = upd H2 T (.tup vs))
section
variable (K : PySem.W.Frag) (CT : CTab) (W : WX) (σ : L2.St) (α : List Addr) (H : Hp) (G : Addr → Prop)
def SatI (Rr : L2.It → Hp → Prop) : PD.R (List D) → Prop
  | .ok xs st' => ∀ J H' α', Ext α H α' H' → WS α' st' H' → WalkD K CT G α' H' J xs → Rr J H'
  | .exc c ds st' => ExcW K CT W σ α H G c ds st'
  | .no => False
end
def wI (X : Cx) (tg iter : Expr) : TI := fun σ H R => ∀ pins s, Inv X pins σ H s → wpAny (model X.prog X.w) X.A (eval iter X.env) (fun v s1 => wpAny (model X.prog X.w) X.A (pyIter v) (PIE X pins σ tg R) X.xe s1) X.xe s
theorem pi_w {X : Cx} {tg iter : Expr} : PI X tg iter (wI X tg iter) := ⟨fun pins s _ _ _ I h => h pins s I⟩
theorem wI.of {X : Cx} {tg iter : Expr} {t : TI} {σ : L2.St} {H : Hp} {R : L2.It → Hp → Prop} (h : PI X tg iter t) (q : t σ H R) : wI X tg iter σ H R := fun pins s I => h.run pins s σ H R I q
def ImplI (T : Tab) (N : List Str) (sc : Scope) (tg iter : Expr) (it' : It) : Prop := ∀ (n : Nat) (X : Cx) (W : WX) (σ : L2.St) (H : Hp) (r : Rho) (st : Store) (α : List Addr) (G : Addr → Prop) (R : L2.It → Hp → Prop),
  Sit T n N sc X W r σ α H G st → SatI X.K T.CT W σ α H G R (evIt (T.P.env n) it' r st) → wI X tg iter σ H R
section
variable {K : PySem.W.Frag} {CT : CTab} {W : WX} {σ : L2.St} {α α1 : List Addr} {H H1 : Hp} {G : Addr → Prop}
theorem SatI.bind {Q : L2.It → Hp → Prop} (e : Ext α H α1 H1) {m : R VD} {f : VD → Store → R (List D)} (h : SatI K CT W σ α H G Q (m.bind f)) :
    SatE K CT W σ α1 H1 G (fun x H' => ∃ v st' α' os, Post K CT α1 H1 G st' v.1 v.2 x H' α' os ∧ SatI K CT W σ α H G Q (f v st')) m := by
  cases m with
  | ok v st' => exact fun x H' α' os p => ⟨v, st', α', os, p, h⟩
  | exc c ds st' => exact ExcW.from e (fun _ g => g) h
  | no => exact h
theorem SatE.bindI {Q : VK} {m : R (List D)} {f : List D → Store → R VD} (h : SatE K CT W σ α H G Q (m.bind f)) :
    SatI K CT W σ α H G (fun J H' => ∃ xs st' α', Ext α H α' H' ∧ WS α' st' H' ∧ WalkD K CT G α' H' J xs ∧ SatE K CT W σ α H G Q (f xs st')) m := by
  cases m with
  | ok v st' => exact fun J H' α' e w k => ⟨v, st', α', e, w, k, h⟩
  | exc c ds st' => exact h
  | no => exact h
theorem wk_list {a : Addr} {xs : List D} {vs : List V} (ha : H a = some (.lst vs)) (ga : G a) (na : a ∉ α) (r : RepL K CT α G H xs .no vs []) : WalkD K CT G α H (Itl K a) xs := by
  have l := r.len
  refine ⟨fun H => SqL K H a vs, YAt vs, by rw [← l]; exact walk_list (K := K) (a := a) (xs := vs), fun α2 H2 k => .inl (.inl (k.kp a _ na ha (.inl ga))), fun i x α2 H2 H3 G2 hi k tr2 hg y => ?_⟩
  obtain ⟨e, hx⟩ := y
  subst e
  have hd : xs[i]? = some xs[i] := List.getElem?_eq_getElem hi
  obtain ⟨v, os', h1, h2, h3⟩ := RepL.ix r hd
  rw [hx] at h1
  cases h1
  obtain rfl := List.sublist_nil.mp h2
  exact ⟨_, hd, Ext.refl _ _, Rep.kg k (fun a g t => ⟨hg a g t, g⟩) _ (fun _ z => (by cases z)) h3, .inl rfl⟩
theorem wk_tup {a : Addr} {xs : List D} {vs : List V} (ha : TupAt K α H a vs) (r : RepL K CT α G H xs .no vs []) : WalkD K CT G α H (Itt K a) xs := by
  have l := r.len
  refine ⟨_, _, by rw [← l]; exact walk_tup (K := K) (a := a) (xs := vs), fun α2 H2 k => (ha.kg k).sqT, fun i x α2 H2 H3 G2 hi k tr2 hg y => ?_⟩
  obtain ⟨e, hx⟩ := y
  subst e
  have hd : xs[i]? = some xs[i] := List.getElem?_eq_getElem hi
  obtain ⟨v, os', h1, h2, h3⟩ := RepL.ix r hd
  rw [hx] at h1
  cases h1
  obtain rfl := List.sublist_nil.mp h2
  exact ⟨_, hd, Ext.refl _ _, Rep.kg k (fun a g t => ⟨hg a g t, g⟩) _ (fun _ z => (by cases z)) h3, .inl rfl⟩
theorem wk_str (s : List Nat) : WalkD K CT G α H (Its (toStr s)) (s.map fun c => .str [c]) := by
  refine ⟨_, _, by rw [List.length_map, show s.length = (toStr s).cps.size from (toStr_len s).symm]; exact walk_str (z := toStr s), fun _ _ _ => trivial, fun i x α2 H2 H3 G2 hi k tr2 hg y => ?_⟩
  obtain ⟨e, c, hc, hx⟩ := y
  subst e hx
  have hc' : s[i]? = some c := by simpa [toStr] using hc
  exact ⟨.str [c], by rw [List.getElem?_map, hc']; rfl, Ext.refl _ _, by unfold Rep; exact ⟨rfl, rfl⟩, .inl rfl⟩
theorem intRange_at : ∀ (n : Nat) (lo : Int) (i : Nat), i < n → (intRange lo n)[i]? = some (.int (lo + i))
  | 0, _, i, h => by omega
  | n + 1, lo, i, h => by
    cases i with
    | zero => simp [intRange]
    | succ i =>
      have := intRange_at n (lo + 1) i (by omega)
      show (intRange (lo + 1) n)[i]? = _
      rw [this]
      congr 2
      omega
theorem intRange_len : ∀ (n : Nat) (lo : Int), (intRange lo n).length = n
  | 0, _ => rfl
  | n + 1, lo => by
    show (intRange (lo + 1) n).length + 1 = _
    rw [intRange_len n]
theorem wk_range {lo : Int} {n : Nat} : WalkD K CT G α H (Itr lo n) (intRange lo n) := by
  refine ⟨_, _, by rw [intRange_len]; exact walk_range, fun _ _ _ => trivial, fun i x α2 H2 H3 G2 hi k tr2 hg y => ?_⟩
  obtain ⟨e, hx⟩ := y
  subst e hx
  rw [intRange_len] at hi
  exact ⟨.int (lo + i), intRange_at n lo i hi, Ext.refl _ _, by unfold Rep; exact ⟨rfl, rfl⟩, .inl rfl⟩
end
section
variable {T : Tab} {N : List Str} {sc : Scope} {tg : Expr}
/-- a list, a tuple, a text -/
theorem impl_itE {e : Expr} {e' : Ex} (he : ImplE T N sc e e') : ImplI T N sc tg e (.ex e') := by
  intro n X W σ H r st α G R S h pins s I
  unfold evIt at h
  refine thn (he n X W σ H r st α G _ S (h.bind (Ext.refl _ _)) pins s I) fun u s1 ⟨x, H1, I1, ru, v, st1, α1, os1, p1, h1⟩ => ?_
  have S1 := S.keep p1.ext p1.ws
  have rx := p1.shared S.gf
  -- the value as a name's: what stands behind is walked
  cases hq : seqD v.2 with
  | none => rw [hq] at h1; exact h1.elim
  | some xs =>
    rw [hq] at h1
    have k1 : ∀ J H' α', Ext α H α' H' → WS α' st1 H' → WalkD X.K T.CT G α' H' J xs → R J H' := h1
    clear h1
    unfold seqD at hq
    split at hq <;> cases hq
    · rename_i hv
      rw [hv] at rx
      obtain ⟨a, vs, rfl, ha, rl, na, ga⟩ := lst_of rx
      obtain rfl : u = .ref a := ru
      obtain ⟨its, rv, p, hz⟩ := I1.list (.inl (.inl ha))
      refine wpAny_pyIter_list p.isList (pi_one (tk := s1.toks) I1 _ (turn_list a _) ⟨_, Heap.get?_push_size _ rfl, rfl, rfl⟩ (k1 _ H1 α1 p1.ext p1.ws (wk_list ha ga na rl)))
    · rename_i hv
      rw [hv] at rx
      obtain ⟨a, vs, rfl, ha, rl⟩ := tup_of rx
      obtain rfl : u = .ref a := ru
      obtain ⟨its, rv, p, hz⟩ := I1.tuple ha.sqT
      refine wpAny_pyIter_tuple (show s1.heap.IsTuple a its.toArray from p) (pi_one (tk := s1.toks) I1 _ (turn_tuple a _) ⟨_, Heap.get?_push_size _ rfl, rfl, rfl⟩ (k1 _ H1 α1 p1.ext p1.ws (wk_tup ha rl)))
    · rename_i t hv
      rw [hv] at rx
      rw [rep_str rx] at ru
      obtain ⟨tk, rfl⟩ := ru
      have q := k1 _ H1 α1 p1.ext p1.ws (wk_str t)
      cases ha : (toStr t).cps.all (· < 128)
      · exact wpAny_pyIter_wide ha (pi_one (tk := s1.toks) I1 _ (turn_str _ (toStr t) tk "str_iterator" (.inr rfl)) ⟨_, Heap.get?_push_size _ rfl, rfl, rfl⟩ q)
      · exact wpAny_pyIter_ascii ha (pi_one (tk := s1.toks) I1 _ (turn_str _ (toStr t) tk "str_ascii_iterator" (.inl rfl)) ⟨_, Heap.get?_push_size _ rfl, rfl, rfl⟩ q)
theorem small_of {i : Int} (h : small i = true) : -1000000000 < i ∧ i < 1000000000 := by
  unfold small at h
  simpa using h
theorem impl_rng1 {a : Expr} {a' : Ex} {p pos : Pos} (ha : ImplE T N sc a a') (hg : sc.names.lookup ("range" : Str) = some .globalImplicit) (hs : noStar a = true) : ImplI T N sc tg (.Call (.Name "range" p) [a] [] pos) (.rng1 a') := by
  intro n X W σ H r st α G R S h
  unfold evIt at h
  refine wI.of (pi_range1 (Sit.gl hg S.ok) (S.ok.F.blt _ (by simp)) (pa_cons pe_w pa_nil (star_of hs _ _)) (star_of hs _ _)) ?_
  refine wE.mono (ha n X W σ H r st α G _ S (h.bind (Ext.refl _ _))) fun x H1 ⟨v, st1, α1, os1, p1, h1⟩ => ?_
  split at h1
  · rename_i i hv
    split at h1
    · rename_i hsm
      have rx := p1.rep
      rw [hv] at rx
      rw [rep_int rx]
      have z := small_of hsm
      refine ⟨i, rfl, by omega, by omega, h1 _ H1 α1 p1.ext p1.ws ?_⟩
      unfold rangeD
      rw [show (i - 0).toNat = i.toNat by simp]
      exact wk_range
    · exact h1.elim
  · exact h1.elim
theorem impl_rng2 {a b : Expr} {a' b' : Ex} {p pos : Pos} (ha : ImplE T N sc a a') (hb : ImplE T N sc b b') (hg : sc.names.lookup ("range" : Str) = some .globalImplicit) (hs : noStar a = true) (hs2 : noStar b = true) : ImplI T N sc tg (.Call (.Name "range" p) [a, b] [] pos) (.rng2 a' b') := by
  intro n X W σ H r st α G R S h
  unfold evIt at h
  refine wI.of (pi_range2 (Sit.gl hg S.ok) (S.ok.F.blt _ (by simp)) (pa_cons pe_w (pa_cons pe_w pa_nil (star_of hs2 _ _)) (star_of hs _ _)) (by rw [star_of hs, star_of hs2]; rfl) (star_of hs2 _ _)) ?_
  refine wE.mono (ha n X W σ H r st α G _ S (h.bind (Ext.refl _ _))) fun x H1 ⟨v, st1, α1, os1, p1, h1⟩ => ?_
  have S1 := S.keep p1.ext p1.ws
  refine wE.mono (hb n X W σ H1 r st1 α1 G _ S1 (h1.bind p1.ext)) fun y H2 ⟨w, st2, α2, os2, p2, h2⟩ => ?_
  split at h2
  · rename_i i j hv hw
    split at h2
    · rename_i hsm
      rw [Bool.and_eq_true] at hsm
      have rx := p1.rep
      rw [hv] at rx
      rw [rep_int rx]
      have ry := p2.rep
      rw [hw] at ry
      rw [rep_int ry]
      have z1 := small_of hsm.1
      have z2 := small_of hsm.2
      exact ⟨i, j, rfl, ⟨by omega, by omega, by omega, by omega⟩, h2 _ H2 α2 (p1.ext.trans p2.ext) p2.ws wk_range⟩
    · exact h2.elim
  · exact h2.elim
end
end PD
/-! DLc: targets; list comprehensions -/
namespace PD
open PySem PySem.Spec PyProof.Rows L2
/-! ### targets -/
def okTgs (f : Str → Bool) (N : List Str) : List Expr → List Nat → Bool
  | [], [] => true
  | .Name x _ :: es, i :: is => decide (N[i]? = some x) && f x && okTgs f N es is
  | _, _ => false
def okTg (f : Str → Bool) (N : List Str) : Expr → Tg → Bool
  | .Name x _, .nm i => decide (N[i]? = some x) && f x
  | .Tuple es _ _, .tp is => okTgs f N es is
  | _, _ => false
def slotsOf : Tg → List Nat
  | .nm i => [i]
  | .tp is => is
def gsOf : List Nat → TGs
  | [] => gNil
  | i :: is => gCons (gName i) (gsOf is)
def gOf (K : PySem.W.Frag) : Tg → TG
  | .nm i => gName i
  | .tp is => gTup K is.length (gsOf is)
/-- values to names -/
def setsV : List Nat → List V → L2.St → L2.St
  | i :: is, v :: vs, σ => setsV is vs (σ.set i (some v))
  | _, _, σ => σ
theorem gsOf_ok : ∀ (is : List Nat) {vs : List V} {σ : L2.St} {H : Hp} {Q : L2.St → Hp → Prop}, vs.length = is.length → Q (setsV is vs σ) H → gsOf is vs σ H Q
  | [], [], σ, H, Q, _, q => ⟨rfl, q⟩
  | i :: is, v :: vs, σ, H, Q, hl, q => ⟨v, vs, rfl, gsOf_ok is (by simpa using hl) q⟩
  | [], _ :: _, _, _, _, hl, _ => by simp at hl
  | _ :: _, [], _, _, _, hl, _ => by simp at hl
section
variable {X : Cx} {N : List Str} {f : Str → Bool}
theorem pgs_of (hX : X.N = N) (nd : N.Nodup) (hf : ∀ x, f x = true → Loc X.env.scope x ∧ (X.fn x = true ∨ X.env.scope.names.lookup x = some .local)) : ∀ {es : List Expr} {is : List Nat}, okTgs f N es is = true → PGs X es (gsOf is) ∧ (assignEach es X.env).length = is.length ∧ (assignEach es X.env).findIdx? (·.1) = none
  | [], [], _ => ⟨pgs_nil, rfl, rfl⟩
  | e :: es, i :: is, h => by
    cases e with
    | Name x p =>
      unfold okTgs at h
      simp only [Bool.and_eq_true, decide_eq_true_eq] at h
      obtain ⟨⟨h1, h2⟩, h3⟩ := h
      obtain ⟨k1, k2, k3⟩ := pgs_of hX nd hf h3
      obtain ⟨l1, l2⟩ := hf x h2
      refine ⟨pgs_cons (pg_name (by rw [hX]; exact nd) (by rw [hX]; exact h1) l1 l2) k1, ?_, ?_⟩
      · show (assignEach es X.env).length + 1 = is.length + 1
        rw [k2]
      · show ((false, assign (.Name x p) X.env) :: assignEach es X.env).findIdx? (·.1) = none
        rw [List.findIdx?_cons]
        simp [k3]
    | _ => unfold okTgs at h; cases h
  | [], _ :: _, h => by unfold okTgs at h; cases h
  | e :: es, [], h => by cases e <;> (unfold okTgs at h; cases h)
theorem pg_of (hX : X.N = N) (nd : N.Nodup) (hc : X.calm = true) (hf : ∀ x, f x = true → Loc X.env.scope x ∧ (X.fn x = true ∨ X.env.scope.names.lookup x = some .local)) {tg : Expr} {tg' : Tg} (h : okTg f N tg tg' = true) : PG X tg (gOf X.K tg') := by
  unfold okTg at h
  split at h
  · simp only [Bool.and_eq_true, decide_eq_true_eq] at h
    obtain ⟨l1, l2⟩ := hf _ h.2
    exact pg_name (by rw [hX]; exact nd) (by rw [hX]; exact h.1) l1 l2
  · obtain ⟨k1, k2, k3⟩ := pgs_of hX nd hf h
    exact pg_tup hc k1 k2 k3
  · cases h
end
/-- the names but those told -/
def EnvOff (K : PySem.W.Frag) (CT : CTab) (α : List Addr) (G : Addr → Prop) (H : Hp) (is : List Nat) (r : Rho) (σ : L2.St) : Prop :=
  ∀ (i : Nat) (d : D), i ∉ is → r[i]? = some (some d) → ∃ v, σ[i]? = some (some v) ∧ Rep K CT α G H d .no v []
section
variable {K : PySem.W.Frag} {CT : CTab} {α : List Addr} {G : Addr → Prop} {H : Hp}
theorem setsV_len : ∀ (is : List Nat) (vs : List V) (σ : L2.St), (setsV is vs σ).length = σ.length
  | i :: is, v :: vs, σ => by
    show (setsV is vs (σ.set i (some v))).length = _
    rw [setsV_len is vs, List.length_set]
  | [], _, _ => rfl
  | _ :: _, [], _ => rfl
theorem setsV_off : ∀ (is : List Nat) (vs : List V) (σ : L2.St) (j : Nat), j ∉ is → (setsV is vs σ)[j]? = σ[j]?
  | i :: is, v :: vs, σ, j, h => by
    show (setsV is vs (σ.set i (some v)))[j]? = _
    have ne : i ≠ j := fun z => h (by rw [z]; exact List.mem_cons_self)
    rw [setsV_off is vs _ j fun z => h (List.mem_cons_of_mem _ z), List.getElem?_set_ne ne]
  | [], _, _, _, _ => rfl
  | _ :: _, [], _, _, _ => rfl
theorem sets_env : ∀ (is : List Nat) (ds : List D) (vs : List V) (r : Rho) (σ : L2.St), is.length = ds.length → (∀ i ∈ is, i < σ.length) → RepL K CT α G H ds .no vs [] → EnvOff K CT α G H is r σ → EnvV K CT α G H (setsR is ds r) (setsV is vs σ)
  | [], [], vs, r, σ, _, _, _, e => fun i d h => e i d (by simp) h
  | i :: is, d :: ds, vs, r, σ, hl, hi, rl, e => by
    unfold RepL at rl
    obtain ⟨v, r', os1, os2, rfl, h2, h3, h4⟩ := rl
    obtain ⟨rfl, rfl⟩ := List.append_eq_nil_iff.mp h2.symm
    show EnvV K CT α G H (setsR is ds (r.set i (some d))) (setsV is r' (σ.set i (some v)))
    have li := hi i List.mem_cons_self
    refine sets_env is ds r' _ _ (by simpa using hl) (fun j hj => by rw [List.length_set]; exact hi j (List.mem_cons_of_mem _ hj)) h4 fun j d' hj hd => ?_
    by_cases z : j = i
    · subst z
      refine ⟨v, by rw [List.getElem?_set_self li], ?_⟩
      rw [List.getElem?_set_self' ] at hd
      cases q : r[j]? with
      | none => rw [q] at hd; cases hd
      | some x =>
        rw [q] at hd
        cases hd
        exact h3
    · rw [List.getElem?_set_ne (Ne.symm z)] at hd ⊢
      exact e j d' (fun w => (List.mem_cons.mp w).elim z hj) hd
  | [], _ :: _, _, _, _, h, _, _, _ => by simp at h
  | _ :: _, [], _, _, _, h, _, _, _ => by simp at h
/-- a target's store -/
theorem tg_ok {tg' : Tg} {d : D} {v : V} {r r' : Rho} {σ : L2.St} (rd : Rep K CT α G H d .no v []) (hb : bindTg tg' d r = some r') (hi : ∀ i ∈ slotsOf tg', i < σ.length) (e : EnvOff K CT α G H (slotsOf tg') r σ) {Q : L2.St → Hp → Prop}
    (q : ∀ σ', EnvV K CT α G H r' σ' → σ'.length = σ.length → (∀ j, j ∉ slotsOf tg' → σ'[j]? = σ[j]?) → Q σ' H) : gOf K tg' v σ H Q := by
  cases tg' with
  | nm i =>
    unfold bindTg at hb
    cases hb
    refine q (setsV [i] [v] σ) (sets_env [i] [d] [v] r σ rfl hi ?_ e) (setsV_len _ _ _) fun j hj => setsV_off _ _ _ _ hj
    unfold RepL
    exact ⟨v, [], [], [], rfl, rfl, rd, repL_nil⟩
  | tp is =>
    unfold bindTg at hb
    simp only at hb
    split at hb
    · rename_i ds
      split at hb
      · rename_i hl
        cases hb
        unfold Rep at rd
        obtain ⟨a, vs, rfl, ha, rl⟩ := rd
        have l := rl.len
        exact ⟨a, vs, rfl, ha.sqT, by omega, gsOf_ok is (by omega) (q _ (sets_env is ds vs r σ hl hi rl e) (setsV_len _ _ _) fun j hj => setsV_off _ _ _ _ hj)⟩
      · cases hb
    · cases hb
theorem wipe_get : ∀ (vs : List Nat) (σ : L2.St) (j : Nat), (wipe σ vs)[j]? = if j ∈ vs then (if j < σ.length then some none else none) else σ[j]?
  | [], σ, j => by simp [wipe]
  | v :: vs, σ, j => by
    unfold wipe
    by_cases z : j = v
    · subst z
      rw [if_pos List.mem_cons_self]
      by_cases l : j < σ.length
      · rw [List.getElem?_set_self (by rw [wipe_length]; exact l), if_pos l]
      · rw [if_neg l, List.getElem?_eq_none (by rw [List.length_set, wipe_length]; omega)]
    · rw [List.getElem?_set_ne (Ne.symm z), wipe_get vs σ j]
      by_cases m : j ∈ vs
      · rw [if_pos m, if_pos (List.mem_cons_of_mem _ m)]
      · rw [if_neg m, if_neg fun w => (List.mem_cons.mp w).elim z m]
theorem wipe_cong {σ σ' : L2.St} {vs : List Nat} (hl : σ'.length = σ.length) (h : ∀ j, j ∉ vs → σ'[j]? = σ[j]?) : wipe σ' vs = wipe σ vs := by
  apply List.ext_getElem?
  intro j
  rw [wipe_get, wipe_get]
  by_cases m : j ∈ vs
  · rw [if_pos m, if_pos m, hl]
  · rw [if_neg m, if_neg m, h j m]
theorem env_wipe {r : Rho} {σ : L2.St} {is : List Nat} (e : EnvV K CT α G H r σ) : EnvOff K CT α G H is r (wipe σ is) := fun i d hi hd => by
  obtain ⟨v, h1, h2⟩ := e i d hd
  exact ⟨v, by rw [wipe_get, if_neg hi]; exact h1, h2⟩
end
theorem wI.mono {X : Cx} {tg iter : Expr} {σ : L2.St} {H : Hp} {R R' : L2.It → Hp → Prop} (h : wI X tg iter σ H R) (k : ∀ J H', R J H' → R' J H') : wI X tg iter σ H R' := fun pins s I =>
  thn (h pins s I) fun u s1 q => thn q fun v s2 ⟨it, fp, tn, J, H', e, I', t, z, f, q⟩ => ⟨it, fp, tn, J, H', e, I', t, z, f, k J H' q⟩
theorem lcF_none {tg : Tg} {r : Rho} {c e : Rho → Store → R VD} {x : D} {st : Store} (h : bindTg tg x r = none) : lcF tg r c e x st = .no := by
  unfold lcF
  rw [h]
theorem lcF_some {tg : Tg} {r r' : Rho} {c e : Rho → Store → R VD} {x : D} {st : Store} (h : bindTg tg x r = some r') : lcF tg r c e x st = (c r' st).noX.bind fun b st => match truthD b.2 with
    | some true => (e r' st).noX.bind fun v st => .ok (some v) st
    | some false => .ok none st
    | none => .no := by
  unfold lcF
  first
    | (simp only [h]; done)
    | (simp only [h]; congr 1)
theorem R.bind_assoc {α β γ : Type} (m : R α) (f : α → Store → R β) (g : β → Store → R γ) : (m.bind f).bind g = m.bind fun x st => (f x st).bind g := by
  cases m <;> rfl
/-- what may not raise -/
theorem SatE.bindX {K : PySem.W.Frag} {CT : CTab} {W : WX} {σ σ2 : L2.St} {α α1 : List Addr} {H H1 : Hp} {G G1 : Addr → Prop} {Q : VK} {m : R VD} {f : VD → Store → R VD} (h : SatE K CT W σ α H G Q (m.noX.bind f)) :
    SatE K CT (fun _ _ _ _ => False) σ2 α1 H1 G1 (fun x H' => ∃ v st' α' os, Post K CT α1 H1 G1 st' v.1 v.2 x H' α' os ∧ SatE K CT W σ α H G Q (f v st')) m := by
  cases m with
  | ok v st' => exact fun x H' α' os p => ⟨v, st', α', os, p, h⟩
  | exc c ds st' => exact (show False from h).elim
  | no => exact h
theorem SatE.bindXT {K : PySem.W.Frag} {CT : CTab} {W : WX} {σ σ2 : L2.St} {α α1 : List Addr} {H H1 : Hp} {G G1 : Addr → Prop} {Q : VK} {m : R VD} {a b : Store → R VD} {f : VD → Store → R VD} (hf : ∀ v st, f v st = match truthD v.2 with | some true => a st | some false => b st | none => .no) (h : SatE K CT W σ α H G Q (m.noX.bind f)) :
    SatT K CT (fun _ _ _ _ => False) σ2 α1 H1 G1 (fun c H' => ∃ st' α', Ext α1 H1 α' H' ∧ WS α' st' H' ∧ SatE K CT W σ α H G Q (if c = true then a st' else b st')) m := by
  cases m with
  | ok v st' =>
    have h : SatE K CT W σ α H G Q (f v st') := h
    rw [hf] at h
    cases q : truthD v.2 with
    | none => rw [q] at h; exact h.elim
    | some c =>
      refine ⟨c, q, fun H' α' e w => ⟨st', α', e, w, ?_⟩⟩
      cases c <;> simpa [q] using h
  | exc c ds st' => exact (show False from h).elim
  | no => exact h

/-! ### list comprehensions -/
def locC (sc scope : Scope) (x : Str) : Bool := decide ((relS scope sc).names.lookup x = some .local) || (decide ((relS scope sc).names.lookup x = some .cell) && decide (scope.names.lookup x = some .cell))
def notSet : Expr → Bool
  | .Set _ _ _ => false
  | _ => true
theorem notSet_by {e : Expr} (h : notSet e = true) (env : PySem.Env) : ∀ x, foldedSetIterable e env x = pure x := by
  intro x
  cases e <;> first | rfl | cases h
section
variable {T : Tab} {N : List Str} {sc : Scope}
/-- the block of a comprehension -/
theorem XOk.blk {n : Nat} {X : Cx} (ok : XOk T n N sc X) (s : Shared) (H : Hp) (scope : Scope) (cl : List (Str × Addr)) (C : Addr) (fp : List Addr) : XOk T n N (relS scope sc) (X.blk s H scope (compEnvC scope cl C X.env) fp) := by
  refine ⟨ok.hN, ok.nd, ?_, ok.calm, ok.room, ok.gd, ok.F⟩
  show relS scope X.env.scope = _
  rw [ok.hsc]
theorem locC_by {n : Nat} {X : Cx} (ok : XOk T n N sc X) (s : Shared) (H : Hp) (scope : Scope) (cl : List (Str × Addr)) (C : Addr) (fp : List Addr) : ∀ x, locC sc scope x = true → Loc (X.blk s H scope (compEnvC scope cl C X.env) fp).env.scope x ∧ ((X.blk s H scope (compEnvC scope cl C X.env) fp).fn x = true ∨ (X.blk s H scope (compEnvC scope cl C X.env) fp).env.scope.names.lookup x = some .local) := by
  intro x h
  have e : (X.blk s H scope (compEnvC scope cl C X.env) fp).env.scope = relS scope sc := (ok.blk s H scope cl C fp).hsc
  rw [e]
  unfold locC at h
  simp only [Bool.or_eq_true, Bool.and_eq_true, decide_eq_true_eq] at h
  rcases h with h | ⟨h1, h2⟩
  · exact ⟨.inl h, .inr h⟩
  · refine ⟨.inr h1, .inl ?_⟩
    show (scope.names.lookup x == some .cell) = true
    rw [h2]; rfl
/-- a reading that holds in every block -/
def bE (X : Cx) (scope : Scope) (e : Expr) : TE := fun σ H Q => ∀ (s : Shared) (H0 : Hp) (C : Addr) (cl : List (Str × Addr)) (fp : List Addr), wE (X.blk s H0 scope (compEnvC scope cl C X.env) fp) e σ H Q
def bT (X : Cx) (scope : Scope) (e : Expr) : TT := fun σ H Q => ∀ (s : Shared) (H0 : Hp) (C : Addr) (cl : List (Str × Addr)) (fp : List Addr), wT (X.blk s H0 scope (compEnvC scope cl C X.env) fp) e σ H Q
/-- a clause's tests -/
def bTs (X : Cx) (scope : Scope) : List Expr → TT
  | [] => tYes
  | c :: _ => bT X scope c
def ImplTs (T : Tab) (N : List Str) (sc : Scope) : List Expr → Ex → Prop
  | [], c' => c' = .lit (.bl true)
  | [c], c' => ImplT T N sc c c'
  | _, _ => False
theorem flatO_or {o : Own} {d : D} : True := trivial
variable {K : PySem.W.Frag} {CT : CTab}
/-- one more item -/
theorem RepL.snoc {α : List Addr} {G : Addr → Prop} {H : Hp} {o : Own} {ds : List D} {vs : List V} {os os' : List Addr} {d : D} {v : V} (h : RepL K CT α G H ds o vs os) (h' : Rep K CT α G H d o v os') : RepL K CT α G H (ds ++ [d]) o (vs ++ [v]) (os ++ os') := by
  refine h.append ?_
  unfold RepL
  exact ⟨v, [], os', [], rfl, by simp, h', repL_nil⟩
/-- what a comprehension has gathered, ahead of turn i -/
structure Gath (K : PySem.W.Frag) (CT : CTab) (α1 : List Addr) (H1 : Hp) (G : Addr → Prop) (D0 : Addr) (acc : List D) (o : Own) (st : Store) (α : List Addr) (H : Hp) (vs : List V) (os : List Addr) : Prop where
  ext : Ext α1 H1 α H
  ws : WS α st H
  at_ : H D0 = some (.lst vs)
  out : D0 ∉ α
  rep : RepL K CT α (Gm G (D0 :: os)) H acc.reverse (child o) vs os
  own : o = .all ∨ (o = .top ∧ os = [])
  fr : ∀ a ∈ os, H1 a = none
  nd : os.Nodup
  no : D0 ∉ os
theorem Gath.tr {α1 : List Addr} {H1 : Hp} {G : Addr → Prop} {D0 : Addr} {acc : List D} {o : Own} {st : Store} {α : List Addr} {H : Hp} {vs : List V} {os : List Addr} (g : Gath K CT α1 H1 G D0 acc o st α H vs os) : ∀ a ∈ D0 :: os, ∃ u, H a = some u := fun a ha => by
  rcases List.mem_cons.mp ha with z | z
  · rw [z]; exact ⟨_, g.at_⟩
  · exact (RepL.own _ g.rep a z).1
/-- an item is gathered -/
theorem Gath.step2 {α1 : List Addr} {H1 : Hp} {G : Addr → Prop} {D0 : Addr} {acc : List D} {o : Own} {st st' : Store} {α α' : List Addr} {H H' : Hp} {vs : List V} {os os2 : List Addr} {d : D} {v : V} {o2 : Own} (g : Gath K CT α1 H1 G D0 acc o st α H vs os) (gf : GF G H1) (hD : H1 D0 = none)
    (p : Post K CT α H (Gm G (D0 :: os)) st' o2 d v H' α' os2) :
    ∃ os3, (∀ a ∈ os3, a ∈ os ∨ a ∈ os2) ∧ Gath K CT α1 H1 G D0 (d :: acc) (if o = .all ∧ o2 = .all then .all else .top) st' α' (upd H' D0 (.lst (vs ++ [v]))) (vs ++ [v]) os3 := by
  have nD : D0 ∉ os2 := fun z => by
    have q := g.at_
    rw [p.fr D0 z] at q
    cases q
  have hD' : H' D0 = some (.lst vs) := p.ext.kp D0 _ g.out g.at_
  have outD : D0 ∉ α' := p.ext.out g.out ⟨_, g.at_⟩
  have ext : Ext α1 H1 α' (upd H' D0 (.lst (vs ++ [v]))) := by
    have e := g.ext.trans p.ext
    have ne : ∀ {a : Addr} {u : HO}, H1 a = some u → a ≠ D0 := fun h z => by rw [z, hD] at h; cases h
    exact ⟨fun a u n h => by rw [upd_ne (ne h)]; exact e.kp a u n h, e.al, fun a ha u h => by rw [upd_ne (ne h)]; exact e.cell a ha u h⟩
  have ws : WS α' st' (upd H' D0 (.lst (vs ++ [v]))) := ⟨p.ws.len, p.ws.nd, fun n a ha => by
    obtain ⟨xs, h1, h2⟩ := p.ws.at_ n a ha
    exact ⟨xs, h1, by rw [upd_ne (fun z => outD (by rw [← z]; exact List.mem_of_getElem? ha))]; exact h2⟩⟩
  have kg : KG (fun a => a ≠ D0) α' H' α' (upd H' D0 (.lst (vs ++ [v]))) := KG.upd (by simp) fun u hu => by rw [hD'] at hu; cases hu; exact id
  have apart : ∀ a ∈ os, a ∉ os2 := fun a h1 h2 => by
    obtain ⟨u, hu⟩ := g.tr a (List.mem_cons_of_mem _ h1)
    rw [p.fr a h2] at hu; cases hu
  -- the elder items behind the evaluation and the store
  have e1 : RepL K CT α' (Gm G (D0 :: (os ++ os2))) (upd H' D0 (.lst (vs ++ [v]))) acc.reverse (child o) vs os := by
    have a1 := RepL.ext (G' := Gm G (D0 :: (os ++ os2))) p.ext (fun a h ⟨u, hu⟩ => ⟨h.1, fun z => by
      rcases List.mem_cons.mp z with z | z
      · exact h.2 (z ▸ List.mem_cons_self)
      · rcases List.mem_append.mp z with z | z
        · exact h.2 (List.mem_cons_of_mem _ z)
        · rw [p.fr a z] at hu; cases hu⟩) _ g.rep
    exact RepL.kg kg (fun a h _ => ⟨h, fun z => h.2 (z ▸ List.mem_cons_self)⟩) _ (fun a ha z => g.no (z ▸ ha)) a1
  have e2 : Rep K CT α' (Gm G (D0 :: (os ++ os2))) (upd H' D0 (.lst (vs ++ [v]))) d o2 v os2 := by
    refine Rep.kg kg (fun a h _ => ⟨⟨h.1.1, fun z => ?_⟩, fun z => h.1.2 (z ▸ List.mem_cons_self)⟩) _ (fun a ha z => nD (z ▸ ha)) p.rep
    rcases List.mem_cons.mp z with z | z
    · exact h.1.2 (z ▸ List.mem_cons_self)
    · rcases List.mem_append.mp z with z | z
      · exact h.1.2 (List.mem_cons_of_mem _ z)
      · exact h.2 z
  have frs : ∀ a ∈ os ++ os2, H1 a = none := fun a ha => by
    rcases List.mem_append.mp ha with z | z
    · exact g.fr a z
    · exact g.ext.fresh (p.fr a z)
  have nds : (os ++ os2).Nodup := List.nodup_append.mpr ⟨g.nd, p.nd, fun a ha b hb z => apart a ha (z ▸ hb)⟩
  have nos : D0 ∉ os ++ os2 := fun z => (List.mem_append.mp z).elim g.no nD
  by_cases c : o = .all ∧ o2 = .all
  · obtain ⟨rfl, rfl⟩ := c
    refine ⟨os ++ os2, fun a ha => List.mem_append.mp ha, ext, ws, upd_same, outD, ?_, .inl (by simp), frs, nds, nos⟩
    rw [List.reverse_cons]
    exact RepL.snoc e1 e2
  · refine ⟨[], fun _ z => (by cases z), ext, ws, upd_same, outD, ?_, .inr ⟨by rw [if_neg c], rfl⟩, fun _ z => (by cases z), List.nodup_nil, by simp⟩
    rw [List.reverse_cons, if_neg c]
    have all : ∀ a ∈ os ++ os2, Gm G [D0] a := fun a ha => ⟨gf a (frs a ha), fun z => nos (List.mem_singleton.mp z ▸ ha)⟩
    have g1 : RepL K CT α' (Gm G [D0]) (upd H' D0 (.lst (vs ++ [v]))) acc.reverse .no vs [] := RepL.weak _ (RepL.ext (G' := Gm G [D0]) (Ext.refl _ _) (fun a h _ => ⟨h.1, fun z => h.2 (List.mem_singleton.mp z ▸ List.mem_cons_self)⟩) _ e1) fun a ha => all a (List.mem_append_left _ ha)
    have g2 : Rep K CT α' (Gm G [D0]) (upd H' D0 (.lst (vs ++ [v]))) d .no v [] := Rep.weak _ (Rep.ext (G' := Gm G [D0]) (Ext.refl _ _) (fun a h _ => ⟨h.1, fun z => h.2 (List.mem_singleton.mp z ▸ List.mem_cons_self)⟩) _ e2) fun a ha => all a (List.mem_append_right _ ha)
    exact RepL.snoc g1 g2
theorem Gath.step {α1 : List Addr} {H1 : Hp} {G : Addr → Prop} {D0 : Addr} {acc : List D} {o : Own} {st st' : Store} {α α' : List Addr} {H H' : Hp} {vs : List V} {os os2 : List Addr} {d : D} {v : V} {o2 : Own} (g : Gath K CT α1 H1 G D0 acc o st α H vs os) (gf : GF G H1) (hD : H1 D0 = none)
    (p : Post K CT α H (Gm G (D0 :: os)) st' o2 d v H' α' os2) :
    ∃ os3, Gath K CT α1 H1 G D0 (d :: acc) (if o = .all ∧ o2 = .all then .all else .top) st' α' (upd H' D0 (.lst (vs ++ [v]))) (vs ++ [v]) os3 :=
  let ⟨os3, _, h⟩ := g.step2 gf hD p
  ⟨os3, h⟩
/-- the heap grew meanwhile -/
theorem Gath.keep {α1 : List Addr} {H1 : Hp} {G : Addr → Prop} {D0 : Addr} {acc : List D} {o : Own} {st st' : Store} {α α' : List Addr} {H H' : Hp} {vs : List V} {os : List Addr} (g : Gath K CT α1 H1 G D0 acc o st α H vs os) (e : Ext α H α' H') (w : WS α' st' H') :
    Gath K CT α1 H1 G D0 acc o st' α' H' vs os :=
  ⟨g.ext.trans e, w, e.kp D0 _ g.out g.at_, e.out g.out ⟨_, g.at_⟩, RepL.ext e (fun a h _ => h) _ g.rep, g.own, g.fr, g.nd, g.no⟩
theorem lc_te {elt tg iter : Expr} {ifs : List Expr} {scope : Scope} {elt' cond' : Ex} {tg' : Tg} {it' : It}  (hsl : (slotsOf tg').all (fun i => decide (i < N.length)) = true) 
    (hi : ImplI T N sc tg iter it') (hc : ImplTs T N (relS scope sc) ifs cond') (he : ImplE T N (relS scope sc) elt elt') (n : Nat) (X : Cx) (W : WX) (σ : L2.St) (H : Hp) (r : Rho) (st : Store) (α : List Addr) (G : Addr → Prop) (Q : VK) (S : Sit T n N sc X W r σ α H G st) (h : SatE X.K T.CT W σ α H G Q (evE (T.P.env n) (.lc elt' tg' it' cond') r st)) :
    tLc (wI X tg iter) (gOf X.K tg') (bTs X scope ifs) (bE X scope elt) (slotsOf tg') σ H Q := by
  unfold evE at h
  refine wI.mono (hi n X W σ H r st α G _ S h.bindI) fun J H1 ⟨xs, st1, α1, e1, w1, wk, h1⟩ => ?_
  intro D0 hD
  split at h1
  · exact h1.elim
  rename_i hlen
  obtain ⟨Gd, Y, wlk, keepG, yld⟩ := wk
  have S1 := S.keep e1 w1
  -- the turns
  refine lc_it wlk (fun i Hi => ∃ acc o sti αi vs os, vs.length ≤ i ∧ Gath X.K T.CT α1 H1 G D0 acc o sti αi Hi vs os ∧ SatE X.K T.CT W σ α H G Q (gather (lcF tg' r (evE (T.P.env n) cond') (evE (T.P.env n) elt')) (xs.drop i) acc o sti)) ?_ ?_ ?_ ?_
  · refine ⟨[], .all, st1, α1, [], [], Nat.le_refl _, ⟨Ext.new hD, w1.new hD, upd_same, w1.out hD, repL_nil, .inl rfl, fun _ z => (by cases z), List.nodup_nil, by simp⟩, ?_⟩
    rw [List.drop_zero]
    exact h1
  · rintro i Hi _ ⟨acc, o, sti, αi, vs, os, _, g, _⟩
    exact keepG αi Hi (KG.of g.ext)
  · rintro i x Hi Hx hi ⟨acc, o, sti, αi, vs, os, hacc, g, hs⟩ y
    have fresh : ∀ a, G a → (∃ u, H1 a = some u) → Gm G (D0 :: os) a := fun a ga ⟨u, hu⟩ => ⟨ga, fun z => by
      rcases List.mem_cons.mp z with z | z
      · rw [z, hD] at hu; cases hu
      · rw [g.fr a z] at hu; cases hu⟩
    obtain ⟨d, hd, ex, rd, hx⟩ := yld i x αi Hi Hx (Gm G (D0 :: os)) hi (KG.of g.ext) g.ws.trk fresh y
    have wx : WS αi sti Hx := by
      rcases hx with rfl | ⟨T0, ts, hT, rfl⟩
      · exact g.ws
      · exact g.ws.new hT
    have gx := g.keep ex wx
    rw [List.drop_eq_getElem_cons hi] at hs
    have ed : xs[i] = d := by
      rw [List.getElem?_eq_getElem hi] at hd
      exact Option.some.inj hd
    rw [ed] at hs
    unfold gather at hs
    cases hbd : bindTg tg' d r with
    | none => rw [lcF_none hbd] at hs; exact hs.elim
    | some r' =>
      rw [lcF_some hbd] at hs
      simp only [R.bind_assoc] at hs
      have hsl' : ∀ j ∈ slotsOf tg', j < (wipe σ (slotsOf tg')).length := fun j hj => by
        rw [wipe_length, S.len]
        exact of_decide_eq_true (List.all_eq_true.mp hsl j hj)
      refine tg_ok rd hbd hsl' (env_wipe (S1.env.ext (g.ext.trans ex) fresh)) fun σ2 env2 len2 off2 => ⟨?_, ?_⟩
      · have z1 := wipe_cong len2 off2
        rw [z1]
        exact wipe_cong (wipe_length _ _) fun j hj => by rw [wipe_get, if_neg hj]
      have gfx : GF (Gm G (D0 :: os)) Hx := (S1.gf.ext (g.ext.trans ex)).minus gx.tr
      have SB : ∀ (s : Shared) (H0 : Hp) (C : Addr) (cl : List (Str × Addr)) (fp : List Addr), Sit T n N (relS scope sc) (X.blk s H0 scope (compEnvC scope cl C X.env) fp) (fun _ _ _ _ => False) r' σ2 αi Hx (Gm G (D0 :: os)) sti := fun s H0 C cl fp =>
        ⟨S.ok.blk s H0 scope cl C fp, takes0, env2, wx, gfx, by rw [len2, wipe_length]; exact S.len⟩
      -- behind the test
      have body : ∀ (st3 : Store) (α3 : List Addr) (H3 : Hp), Ext αi Hx α3 H3 → WS α3 st3 H3 → ∀ b : Bool, SatE X.K T.CT W σ α H G Q (if b = true then ((evE (T.P.env n) elt' r' st3).noX.bind fun v st => (R.ok (some v) st : R (Option VD)).bind fun v st => match v with | some (o', d) => gather (lcF tg' r (evE (T.P.env n) cond') (evE (T.P.env n) elt')) (xs.drop (i + 1)) (d :: acc) (if o = .all ∧ o' = .all then .all else .top) st | none => gather (lcF tg' r (evE (T.P.env n) cond') (evE (T.P.env n) elt')) (xs.drop (i + 1)) acc o st) else gather (lcF tg' r (evE (T.P.env n) cond') (evE (T.P.env n) elt')) (xs.drop (i + 1)) acc o st3) →
          (if b = true then bE X scope elt σ2 H3 fun y H4 => ∃ acc', H4 D0 = some (.lst acc') ∧ acc'.length < sizeLine ∧ (∃ acc o sti αi vs os, vs.length ≤ i + 1 ∧ Gath X.K T.CT α1 H1 G D0 acc o sti αi (upd H4 D0 (.lst (acc' ++ [y]))) vs os ∧ SatE X.K T.CT W σ α H G Q (gather (lcF tg' r (evE (T.P.env n) cond') (evE (T.P.env n) elt')) (xs.drop (i + 1)) acc o sti)) else
            ∃ acc o sti αi vs os, vs.length ≤ i + 1 ∧ Gath X.K T.CT α1 H1 G D0 acc o sti αi H3 vs os ∧ SatE X.K T.CT W σ α H G Q (gather (lcF tg' r (evE (T.P.env n) cond') (evE (T.P.env n) elt')) (xs.drop (i + 1)) acc o sti)) := by
        intro st3 α3 H3 e3 w3 b hb
        have g3 := gx.keep e3 w3
        cases b with
        | false =>
          rw [if_neg (by decide)] at hb ⊢
          exact ⟨acc, o, st3, α3, vs, os, by omega, g3, hb⟩
        | true =>
          rw [if_pos rfl] at hb ⊢
          intro s H0 C cl fp
          refine wE.mono (he n _ _ σ2 H3 r' st3 α3 (Gm G (D0 :: os)) _ ((SB s H0 C cl fp).keep e3 w3) (SatE.bindX hb)) fun y H4 ⟨v, st4, α4, os4, p4, h4⟩ => ?_
          obtain ⟨os5, g5⟩ := g3.step S1.gf hD p4
          have hD4 : H4 D0 = some (.lst vs) := p4.ext.kp D0 _ g3.out g3.at_
          refine ⟨vs, hD4, ?_, _, _, _, _, _, _, ?_, g5, h4⟩
          · have := maxLen_le (Nat.le_of_not_lt hlen)
            omega
          · rw [List.length_append]
            show vs.length + 1 ≤ i + 1
            omega
      match ifs, hc with
      | [], hc0 =>
        have hc1 : cond' = .lit (.bl true) := hc0
        subst hc1
        refine body sti αi Hx (Ext.refl _ _) wx true ?_
        rw [if_pos rfl]
        have e : evE (T.P.env n) (.lit (.bl true)) r' sti = .ok (.all, .bl true) sti := by unfold evE; rfl
        rw [e] at hs
        have e2 := R.bind_assoc (evE (T.P.env n) elt' r' sti).noX (fun v st => (R.ok (some v) st : R (Option VD))) (fun v st => match v with | some (o', d) => gather (lcF tg' r (evE (T.P.env n) (.lit (.bl true))) (evE (T.P.env n) elt')) (xs.drop (i + 1)) (d :: acc) (if o = .all ∧ o' = .all then .all else .top) st | none => gather (lcF tg' r (evE (T.P.env n) (.lit (.bl true))) (evE (T.P.env n) elt')) (xs.drop (i + 1)) acc o st)
        rw [← e2]
        exact hs
      | [c], hc0 =>
        show bT X scope c σ2 Hx _
        intro s H0 C cl fp
        refine wT.mono (hc0 n _ _ σ2 Hx r' sti αi (Gm G (D0 :: os)) _ (SB s H0 C cl fp) (SatE.bindXT (a := fun st3 => (evE (T.P.env n) elt' r' st3).noX.bind fun v st => (R.ok (some v) st : R (Option VD)).bind fun v st => match v with | some (o', d) => gather (lcF tg' r (evE (T.P.env n) cond') (evE (T.P.env n) elt')) (xs.drop (i + 1)) (d :: acc) (if o = .all ∧ o' = .all then .all else .top) st | none => gather (lcF tg' r (evE (T.P.env n) cond') (evE (T.P.env n) elt')) (xs.drop (i + 1)) acc o st) (b := fun st3 => gather (lcF tg' r (evE (T.P.env n) cond') (evE (T.P.env n) elt')) (xs.drop (i + 1)) acc o st3) (fun v st => ?_) hs)) fun b H3 ⟨st3, α3, e3, w3, h3⟩ => body st3 α3 H3 e3 w3 b h3
        cases truthD v.2 with
        | none => rfl
        | some c =>
          cases c with
          | false => rfl
          | true => exact R.bind_assoc _ _ _
  · rintro Hn ⟨acc, o, sti, αi, vs, os, _, g, hs⟩
    rw [List.drop_length] at hs
    have hs : ∀ x H' α' os', Post X.K T.CT α H G sti o (.lst acc.reverse) x H' α' os' → Q x H' := hs
    refine hs (.ref D0) Hn αi (D0 :: os) ⟨e1.trans g.ext, g.ws, ?_, fun a ha => ?_, List.nodup_cons.mpr ⟨g.no, g.nd⟩⟩
    · show Rep X.K T.CT αi (Gm G (D0 :: os)) Hn (.lst acc.reverse) o (.ref D0) (D0 :: os)
      unfold Rep
      refine ⟨D0, vs, os, rfl, g.out, g.rep, ?_⟩
      rw [if_neg (by rcases g.own with z | ⟨z, _⟩ <;> rw [z] <;> decide)]
      exact ⟨g.at_, rfl⟩
    · rcases List.mem_cons.mp ha with z | z
      · rw [z]; exact e1.fresh hD
      · exact e1.fresh (g.fr a z)
theorem impl_lc {elt tg iter : Expr} {ifs : List Expr} {scope : Scope} {own : List (Str × Nat)} {pos : Pos} {elt' cond' : Ex} {tg' : Tg} {it' : It} (hb : blkC N sc scope own = true) (ho : own.map (·.2) = slotsOf tg') (ht : okTg (locC sc scope) N tg tg' = true) (hsl : (slotsOf tg').all (fun i => decide (i < N.length)) = true) (hns : notSet iter = true)
    (hi : ImplI T N sc tg iter it') (hc : ImplTs T N (relS scope sc) ifs cond') (he : ImplE T N (relS scope sc) elt elt') : ImplE T N sc (.ListComp elt [⟨tg, iter, ifs, 0⟩] scope pos) (.lc elt' tg' it' cond') := by
  intro n X W σ H r st α G Q S h
  have ifsB : ∀ (s : Shared) (H0 : Hp) (C : Addr) (cl : List (Str × Addr)) (fp : List Addr), PTs (X.blk s H0 scope (compEnvC scope cl C X.env) fp) ifs (bTs X scope ifs) := fun s H0 C cl fp => by
    match ifs, hc with
    | [], _ => exact pts_nil
    | [c], _ => exact pts_one ⟨fun pins s' σ' H' Q' I q => q s H0 C cl fp pins s' I⟩
  refine wE.of (pe_lc (g := gOf X.K tg') (tt := bTs X scope ifs) (te := bE X scope elt) S.ok.calm (by rw [S.ok.hN]; exact S.ok.nd) pi_w (blkOk_by (by rw [S.ok.hN, S.ok.hsc]; exact hb)) (fun s H0 C cl fp => pg_of (X := X.blk s H0 scope (compEnvC scope cl C X.env) fp) S.ok.hN S.ok.nd S.ok.calm (locC_by S.ok s H0 scope cl C fp) ht) ifsB
    (fun s H0 C cl fp => ⟨fun pins s' σ' H' Q' I q => q s H0 C cl fp pins s' I⟩) (notSet_by hns X.env)) ?_
  rw [ho]
  exact lc_te hsl hi hc he n X W σ H r st α G Q S h
end
end PD
/-! DFr: an expression's value hangs on its names alone -/
namespace PD
structure Agr (S : List Nat) (r r' : Rho) : Prop where
  len : r.length = r'.length
  at_ : ∀ i ∈ S, r[i]? = r'[i]?
theorem Agr.l {S S' : List Nat} {r r' : Rho} (h : Agr (S ++ S') r r') : Agr S r r' := ⟨h.len, fun i hi => h.at_ i (List.mem_append_left _ hi)⟩
theorem Agr.r {S S' : List Nat} {r r' : Rho} (h : Agr (S ++ S') r r') : Agr S' r r' := ⟨h.len, fun i hi => h.at_ i (List.mem_append_right _ hi)⟩
theorem Agr.set {S : List Nat} {r r' : Rho} (h : Agr S r r') (i : Nat) (d : Option D) : Agr S (r.set i d) (r'.set i d) := by
  refine ⟨by rw [List.length_set, List.length_set]; exact h.len, fun j hj => ?_⟩
  by_cases z : i = j
  · subst z
    rw [List.getElem?_set_self', List.getElem?_set_self', h.at_ i hj]
  · rw [List.getElem?_set_ne z, List.getElem?_set_ne z]
    exact h.at_ j hj
theorem Agr.sets {S : List Nat} : ∀ (is : List Nat) (ds : List D) {r r' : Rho}, Agr S r r' → Agr S (setsR is ds r) (setsR is ds r')
  | i :: is, d :: ds, r, r', h => Agr.sets is ds (h.set i (some d))
  | [], _, _, _, h => h
  | _ :: _, [], _, _, h => h
theorem Agr.bind {S : List Nat} {r r' : Rho} (h : Agr S r r') (tg : Tg) (d : D) : (bindTg tg d r = none ∧ bindTg tg d r' = none) ∨ ∃ r1 r2, bindTg tg d r = some r1 ∧ bindTg tg d r' = some r2 ∧ Agr S r1 r2 := by
  cases tg with
  | nm i => exact .inr ⟨_, _, rfl, rfl, h.sets [i] [d]⟩
  | tp is =>
    cases d with
    | tup ds =>
      by_cases z : is.length = ds.length
      · exact .inr ⟨setsR is ds r, setsR is ds r', by simp [bindTg, z], by simp [bindTg, z], h.sets is ds⟩
      · exact .inl ⟨by simp [bindTg, z], by simp [bindTg, z]⟩
    | _ => exact .inl ⟨rfl, rfl⟩
theorem bind_cong {α β : Type} {m m' : R α} {f f' : α → Store → R β} (h : m = m') (k : ∀ x st, f x st = f' x st) : m.bind f = m'.bind f' := by
  subst h
  cases m with
  | ok a st => exact k a st
  | exc c ds st => rfl
  | no => rfl
theorem lcF_cong {S : List Nat} {tg : Tg} {r r' : Rho} {c e : Rho → Store → R VD} (h : Agr S r r') (hc : ∀ r1 r2 st, Agr S r1 r2 → c r1 st = c r2 st) (he : ∀ r1 r2 st, Agr S r1 r2 → e r1 st = e r2 st) : lcF tg r c e = lcF tg r' c e := by
  funext x st
  unfold lcF
  rcases h.bind tg x with ⟨h1, h2⟩ | ⟨r1, r2, h1, h2, h3⟩
  · rw [h1, h2]
  · rw [h1, h2]
    refine bind_cong (by rw [hc r1 r2 st h3]) fun b st => ?_
    split
    · rw [he r1 r2 st h3]
    · rfl
    · rfl
theorem dcF_cong {S : List Nat} {tg : Tg} {r r' : Rho} {c e : Rho → Store → R VD} (h : Agr S r r') (hc : ∀ r1 r2 st, Agr S r1 r2 → c r1 st = c r2 st) (he : ∀ r1 r2 st, Agr S r1 r2 → e r1 st = e r2 st) : dcF tg r c e = dcF tg r' c e := by
  funext x st
  unfold dcF
  rcases h.bind tg x with ⟨h1, h2⟩ | ⟨r1, r2, h1, h2, h3⟩
  · rw [h1, h2]
  · rw [h1, h2]
    exact bind_cong (by rw [hc r1 r2 st h3]) fun b st => bind_cong (by rw [he r1 r2 st h3]) fun v st => rfl
theorem gatherI_cong {h h' : D → Store → R (Option VD)} (e : h = h') : ∀ (ys acc : List D) (o : Own) (st : Store) (k k' : List D → Own → Store → R VD), (∀ acc o st, k acc o st = k' acc o st) → gatherI h ys acc o st k = gatherI h' ys acc o st k'
  | [], acc, o, st, k, k', hk => hk acc o st
  | y :: ys, acc, o, st, k, k', hk => by
    subst e
    unfold gatherI
    split
    · rfl
    · refine bind_cong rfl fun v st => ?_
      cases v with
      | none => exact gatherI_cong rfl ys acc o st k k' hk
      | some q => exact gatherI_cong rfl ys _ _ st k k' hk
theorem gather2_cong {S : List Nat} {tg tg' : Tg} {r r' : Rho} {i : Rho → Store → R (List D)} {c e : Rho → Store → R VD} (h : Agr S r r') (hi : ∀ r1 r2 st, Agr S r1 r2 → i r1 st = i r2 st) (hc : ∀ r1 r2 st, Agr S r1 r2 → c r1 st = c r2 st) (he : ∀ r1 r2 st, Agr S r1 r2 → e r1 st = e r2 st) :
    ∀ (xs acc : List D) (o : Own) (st : Store), gather2 (lcG tg r i) (fun q => lcF tg' q c e) xs acc o st = gather2 (lcG tg r' i) (fun q => lcF tg' q c e) xs acc o st
  | [], acc, o, st => rfl
  | x :: xs, acc, o, st => by
    unfold gather2 lcG
    rcases h.bind tg x with ⟨h1, h2⟩ | ⟨r1, r2, h1, h2, h3⟩
    · rw [h1, h2]
      rfl
    · rw [h1, h2]
      simp only
      rw [hi r1 r2 st h3]
      cases (i r2 st).noX with
      | ok ys st => exact gatherI_cong (lcF_cong h3 hc he) ys acc o st _ _ fun acc o st => gather2_cong h hi hc he xs acc o st
      | exc c ds st => rfl
      | no => rfl
mutual
theorem evE_fr (env : Env) : ∀ (e : Ex) {r r' : Rho} (st : Store), Agr (exV e) r r' → evE env e r st = evE env e r' st
  | .lit d, r, r', st, h => by unfold evE; rfl
  | .var i, r, r', st, h => by
    unfold evE
    rw [h.at_ i (by unfold exV; simp)]
  | .glob k, r, r', st, h => by unfold evE; rfl
  | .bin op a b, r, r', st, h => by
    unfold evE; unfold exV at h
    exact bind_cong (evE_fr env a st h.l) fun x st => bind_cong (evE_fr env b st h.r) fun y st => rfl
  | .neg a, r, r', st, h => by
    unfold evE; unfold exV at h
    exact bind_cong (evE_fr env a st h) fun x st => rfl
  | .cmp op a b, r, r', st, h => by
    unfold evE; unfold exV at h
    exact bind_cong (evE_fr env a st h.l) fun x st => bind_cong (evE_fr env b st h.r) fun y st => rfl
  | .chain op op' a b c, r, r', st, h => by
    unfold evE; unfold exV at h
    refine bind_cong (evE_fr env a st h.l) fun x st => bind_cong (evE_fr env b st h.r.l) fun y st => ?_
    split
    · exact bind_cong (evE_fr env c st h.r.r) fun z st => rfl
    · rfl
    · rfl
  | .andE a b, r, r', st, h => by
    unfold evE; unfold exV at h
    refine bind_cong (evE_fr env a st h.l) fun x st => ?_
    split
    · exact evE_fr env b st h.r
    · rfl
    · rfl
  | .orE a b, r, r', st, h => by
    unfold evE; unfold exV at h
    refine bind_cong (evE_fr env a st h.l) fun x st => ?_
    split
    · exact evE_fr env b st h.r
    · rfl
    · rfl
  | .notE a, r, r', st, h => by
    unfold evE; unfold exV at h
    exact bind_cong (evE_fr env a st h) fun x st => rfl
  | .ifE t a b, r, r', st, h => by
    unfold evE; unfold exV at h
    refine bind_cong (evE_fr env t st h.l) fun x st => ?_
    split
    · exact evE_fr env a st h.r.l
    · exact evE_fr env b st h.r.r
    · rfl
  | .sub a i, r, r', st, h => by
    unfold evE; unfold exV at h
    exact bind_cong (evE_fr env a st h.l) fun x st => bind_cong (evE_fr env i st h.r) fun y st => rfl
  | .slc a lo hi, r, r', st, h => by
    unfold evE; unfold exV at h
    refine bind_cong (evE_fr env a st h.l) fun x st => bind_cong (evE_fr env lo st h.r.l) fun y st => ?_
    split
    · exact bind_cong (evE_fr env hi st h.r.r) fun z st => rfl
    · rfl
  | .rev a, r, r', st, h => by
    unfold evE; unfold exV at h
    exact bind_cong (evE_fr env a st h) fun x st => rfl
  | .lst es, r, r', st, h => by
    unfold evE; unfold exV at h
    exact bind_cong (evEs_fr env es st h) fun x st => rfl
  | .tup es, r, r', st, h => by
    unfold evE; unfold exV at h
    exact bind_cong (evEs_fr env es st h) fun x st => rfl
  | .dic ks vs, r, r', st, h => by
    unfold evE; unfold exV at h
    exact bind_cong (evEs_fr env ks st h.l) fun x st => bind_cong (evEs_fr env vs st h.r) fun y st => rfl
  | .lc elt tg it cond, r, r', st, h => by
    unfold evE; unfold exV at h
    refine bind_cong (evIt_fr env it st h.l) fun xs st => ?_
    rw [lcF_cong (S := exV cond ++ exV elt) h.r (fun r1 r2 st h => evE_fr env cond st h.l) (fun r1 r2 st h => evE_fr env elt st h.r)]
  | .lc2 elt tg it tg' it' cond, r, r', st, h => by
    unfold evE; unfold exV at h
    refine bind_cong (evIt_fr env it st h.l) fun xs st => ?_
    exact gather2_cong (S := itV it' ++ (exV cond ++ exV elt)) h.r (fun r1 r2 st h => evIt_fr env it' st h.l) (fun r1 r2 st h => evE_fr env cond st h.r.l) (fun r1 r2 st h => evE_fr env elt st h.r.r) xs [] .all st
  | .dc k v tg it, r, r', st, h => by
    unfold evE; unfold exV at h
    refine bind_cong (evIt_fr env it st h.l) fun xs st => ?_
    rw [dcF_cong (S := exV k ++ exV v) h.r (fun r1 r2 st h => evE_fr env k st h.l) (fun r1 r2 st h => evE_fr env v st h.r)]
  | .call f es, r, r', st, h => by
    unfold evE; unfold exV at h
    exact bind_cong (evEs_fr env es st h) fun x st => rfl
  | .mcall f o es, r, r', st, h => by
    unfold evE; unfold exV at h
    refine bind_cong (evE_fr env o st h.l) fun x st => ?_
    split
    · exact bind_cong (evEs_fr env es st h.r) fun y st => rfl
    · rfl
  | .bi b es, r, r', st, h => by
    unfold evE; unfold exV at h
    exact bind_cong (evEs_fr env es st h) fun x st => rfl
  | .meth m o es, r, r', st, h => by
    unfold evE; unfold exV at h
    refine bind_cong (evE_fr env o st h.l) fun x st => ?_
    split
    · exact bind_cong (evEs_fr env es st h.r) fun y st => rfl
    · rfl
  | .isi a ts, r, r', st, h => by
    unfold evE; unfold exV at h
    exact bind_cong (evE_fr env a st h) fun x st => rfl
  | .attr o c k, r, r', st, h => by
    unfold evE; unfold exV at h
    exact bind_cong (evE_fr env o st h) fun x st => rfl
  | .box a, r, r', st, h => by
    unfold evE; unfold exV at h
    exact bind_cong (evE_fr env a st h) fun x st => rfl
  | .sv a, r, r', st, h => by
    unfold evE; unfold exV at h
    exact bind_cong (evE_fr env a st h) fun x st => rfl
  | .ls a, r, r', st, h => by
    unfold evE; unfold exV at h
    exact bind_cong (evE_fr env a st h) fun x st => rfl
theorem evEs_fr (env : Env) : ∀ (es : Exs) {r r' : Rho} (st : Store), Agr (exVs es) r r' → evEs env es r st = evEs env es r' st
  | .nil, r, r', st, h => by unfold evEs; rfl
  | .cons e es, r, r', st, h => by
    unfold evEs; unfold exVs at h
    exact bind_cong (evE_fr env e st h.l) fun x st => bind_cong (evEs_fr env es st h.r) fun y st => rfl
theorem evIt_fr (env : Env) : ∀ (it : It) {r r' : Rho} (st : Store), Agr (itV it) r r' → evIt env it r st = evIt env it r' st
  | .ex e, r, r', st, h => by
    unfold evIt; unfold itV at h
    exact bind_cong (evE_fr env e st h) fun x st => rfl
  | .rng1 a, r, r', st, h => by
    unfold evIt; unfold itV at h
    exact bind_cong (evE_fr env a st h) fun x st => rfl
  | .rng2 a b, r, r', st, h => by
    unfold evIt; unfold itV at h
    exact bind_cong (evE_fr env a st h.l) fun x st => bind_cong (evE_fr env b st h.r) fun y st => rfl
  | .rng3 _ _ _, r, r', st, h => by unfold evIt; rfl
  | .enum e, r, r', st, h => by
    unfold evIt; unfold itV at h
    exact bind_cong (evE_fr env e st h) fun x st => rfl
  | .zip2 a b, r, r', st, h => by
    unfold evIt; unfold itV at h
    exact bind_cong (evE_fr env a st h.l) fun x st => bind_cong (evE_fr env b st h.r) fun y st => rfl
  | .zip3 a b c, r, r', st, h => by
    unfold evIt; unfold itV at h
    exact bind_cong (evE_fr env a st h.l) fun x st => bind_cong (evE_fr env b st h.r.l) fun y st => bind_cong (evE_fr env c st h.r.r) fun z st => rfl
  | .rev e, r, r', st, h => by
    unfold evIt; unfold itV at h
    exact bind_cong (evE_fr env e st h) fun x st => rfl
  | .items _, r, r', st, h => by unfold evIt; rfl
  | .vals _, r, r', st, h => by unfold evIt; rfl
end
/-- the other names hidden -/
def hide (S : List Nat) (r : Rho) : Rho := r.mapIdx fun i d => if i ∈ S then d else none
theorem hide_at {S : List Nat} {r : Rho} {i : Nat} {d : D} (h : (hide S r)[i]? = some (some d)) : i ∈ S ∧ r[i]? = some (some d) := by
  unfold hide at h
  rw [List.getElem?_mapIdx] at h
  obtain ⟨x, hx, e⟩ := Option.map_eq_some_iff.mp h
  split at e
  · rename_i m
    exact ⟨m, by rw [hx, e]⟩
  · cases e
theorem agr_hide (S : List Nat) (r : Rho) : Agr S r (hide S r) := by
  refine ⟨by unfold hide; rw [List.length_mapIdx], fun i hi => ?_⟩
  unfold hide
  rw [List.getElem?_mapIdx]
  cases r[i]? with
  | none => rfl
  | some x => simp [hi]
end PD
/-! DSt: statements: whose objects are whose -/
namespace PD
open PySem PySem.Spec PyProof.Rows L2
section
variable {K : PySem.W.Frag} {CT : CTab} {α : List Addr} {G G' : Addr → Prop} {H : Hp}
mutual
/-- what is all new leans on no shared object -/
theorem Rep.all : ∀ (d : D) {v : V} {os : List Addr}, Rep K CT α G H d .all v os → Rep K CT α G' H d .all v os
  | .non, _, _, h => by unfold Rep at h ⊢; exact h
  | .bl _, _, _, h => by unfold Rep at h ⊢; exact h
  | .int _, _, _, h => by unfold Rep at h ⊢; exact h
  | .str _, _, _, h => by unfold Rep at h ⊢; exact h
  | .hnd n, _, _, h => by unfold Rep at h ⊢; exact h
  | .scr xs, _, _, h => by unfold Rep at h; cases h.2.2
  | .tup xs, _, _, h => by
    unfold Rep at h ⊢
    obtain ⟨a, vs, h1, h2, h3⟩ := h
    exact ⟨a, vs, h1, h2, RepL.all xs h3⟩
  | .lst xs, _, _, h => by
    unfold Rep at h ⊢
    obtain ⟨a, vs, os', h1, h2, h3, h4⟩ := h
    rw [if_neg (by decide)] at h4
    exact ⟨a, vs, os', h1, h2, RepL.all xs h3, by rw [if_neg (by decide)]; exact h4⟩
  | .dic ks ds, _, _, h => by
    unfold Rep at h ⊢
    obtain ⟨a, kvs, os', h1, h2, hk, h3, h4⟩ := h
    rw [if_neg (by decide)] at h4
    exact ⟨a, kvs, os', h1, h2, hk, RepL.all ds h3, by rw [if_neg (by decide)]; exact h4⟩
  | .ins c fs, _, _, h => by
    unfold Rep at h ⊢
    obtain ⟨a, dx, us, os', h1, h2, h3, hne, ta, td, h4, h5, h6⟩ := h
    rw [if_neg (by decide)] at h6
    exact ⟨a, dx, us, os', h1, h2, h3, hne, ta, td, h4, RepL.all fs h5, by rw [if_neg (by decide)]; exact h6⟩
theorem RepL.all : ∀ (ds : List D) {vs : List V} {os : List Addr}, RepL K CT α G H ds .all vs os → RepL K CT α G' H ds .all vs os
  | [], _, _, h => by unfold RepL at h ⊢; exact h
  | d :: ds, _, _, h => by
    unfold RepL at h ⊢
    obtain ⟨v, r, os1, os2, h1, h2, h3, h4⟩ := h
    exact ⟨v, r, os1, os2, h1, h2, Rep.all d h3, RepL.all ds h4⟩
end
end

/-- the objects of the names -/
abbrev Own1 := Nat → List Addr
/-- shareable, and of no name but those told -/
abbrev Gx (G : Addr → Prop) (OS : Own1) (S : List Nat) : Addr → Prop := fun a => G a ∧ ∀ j, j ∉ S → a ∉ OS j
/-- what a def may do to the heap: all that may be shared is kept and stays shared -/
structure Stp (G : Addr → Prop) (α : List Addr) (H : Hp) (OS : Own1) (α' : List Addr) (H' : Hp) (OS' : Own1) : Prop where
  kg : KG (Gx G OS []) α H α' H'
  sh : ∀ a, Gx G OS [] a → (∃ u, H a = some u) → Gx G OS' [] a
theorem KG.rfl' {P : Addr → Prop} {α : List Addr} {H : Hp} : KG P α H α H := KG.of (Ext.refl _ _)
theorem Stp.refl {G : Addr → Prop} {α : List Addr} {H : Hp} {OS : Own1} : Stp G α H OS α H OS := ⟨KG.rfl', fun _ g _ => g⟩
theorem Stp.trans {G : Addr → Prop} {α α1 α2 : List Addr} {H H1 H2 : Hp} {OS OS1 OS2 : Own1} (s : Stp G α H OS α1 H1 OS1) (t : Stp G α1 H1 OS1 α2 H2 OS2) : Stp G α H OS α2 H2 OS2 := by
  refine ⟨⟨fun a u n h p => ?_, ?_, fun a u h => ?_⟩, fun a g tr => ?_⟩
  · have h1 := s.kg.kp a u n h p
    exact t.kg.kp a u (s.kg.out n ⟨u, h⟩) h1 (p.imp (fun g => s.sh a g ⟨u, h⟩) id)
  · obtain ⟨β, rfl, hb⟩ := s.kg.al
    obtain ⟨γ, rfl, hc⟩ := t.kg.al
    refine ⟨β ++ γ, by simp, fun a ha => ?_⟩
    rcases List.mem_append.mp ha with z | z
    · exact hb a z
    · exact s.kg.fresh (hc a z)
  · obtain ⟨u', h'⟩ := s.kg.tr a u h
    exact t.kg.tr a u' h'
  · obtain ⟨u, hu⟩ := tr
    exact t.sh a (s.sh a g ⟨u, hu⟩) (s.kg.tr a u hu)
/-- a bound that no step breaks -/
def Clo (G : Addr → Prop) (Bd : List Addr → Hp → Own1 → Prop) : Prop := ∀ α H OS α' H' OS', Bd α H OS → Stp G α H OS α' H' OS' → Bd α' H' OS'
structure SInv (T : Tab) (n : Nat) (N : List Str) (sc : Scope) (X : Cx) (E : XK) (α0 : List Addr) (H0 : Hp) (G : Addr → Prop) (Bd : List Addr → Hp → Own1 → Prop) (r : SRho) (σ : L2.St) (α : List Addr) (H : Hp) (st : Store) (OS : Own1) : Prop where
  ok : XOk T n N sc X
  tk : Takes X (fun c d _ H' => E c d H')
  slf : ∀ v, T.self = some v → N[0]? = some ("self" : Str) ∧ σ[0]? = some (some v)
  gf0 : GF G H0
  ext : Ext α0 H0 α H
  ws : WS α st H
  len : σ.length = N.length
  lenR : r.length = N.length
  rep : ∀ i o d, r[i]? = some (some (o, d)) → ∃ v, σ[i]? = some (some v) ∧ Rep X.K T.CT α (Gx G OS []) H d o v (OS i)
  fr : ∀ i, ∀ a ∈ OS i, H0 a = none
  tr : ∀ i, ∀ a ∈ OS i, ∃ u, H a = some u
  nd : ∀ i, (OS i).Nodup
  dj : ∀ i j, i ≠ j → ∀ a ∈ OS i, a ∉ OS j
  clo : Clo G Bd
  bd : Bd α H OS
section
variable {T : Tab} {n : Nat} {N : List Str} {sc : Scope} {X : Cx} {E : XK} {α0 α α1 : List Addr} {H0 H H1 : Hp} {G : Addr → Prop} {Bd : List Addr → Hp → Own1 → Prop} {r : SRho} {σ : L2.St} {st st1 : Store} {OS : Own1}
theorem SInv.gs (I : SInv T n N sc X E α0 H0 G Bd r σ α H st OS) {i : Nat} {S : List Nat} (hi : i ∈ S) : ∀ a ∈ OS i, Gx G OS S a := fun a ha => ⟨I.gf0 a (I.fr i a ha), fun j hj => I.dj i j (fun z => hj (z ▸ hi)) a ha⟩
theorem SInv.gfx (I : SInv T n N sc X E α0 H0 G Bd r σ α H st OS) (S : List Nat) : GF (Gx G OS S) H := fun a ha => ⟨I.gf0 a (I.ext.fresh ha), fun j _ z => by
  obtain ⟨u, hu⟩ := I.tr j a z
  rw [ha] at hu; cases hu⟩
theorem view_at {r : SRho} {i : Nat} {d : D} (h : (view r)[i]? = some (some d)) : ∃ o, r[i]? = some (some (o, d)) := by
  unfold view at h
  rw [List.getElem?_map] at h
  obtain ⟨x, hx, e⟩ := Option.map_eq_some_iff.mp h
  cases x with
  | none => cases e
  | some p =>
    obtain ⟨o, d'⟩ := p
    have : d' = d := by simpa using e
    subst this
    exact ⟨o, hx⟩
/-- an expression is evaluated: its own names are seen, no other -/
theorem SInv.sit (I : SInv T n N sc X E α0 H0 G Bd r σ α H st OS) (S : List Nat) : Sit T n N sc X (fun c d _ H' => E c d H') (hide S (view r)) σ α H (Gx G OS S) st := by
  refine ⟨I.ok, I.tk, fun i d hd => ?_, I.ws, I.gfx S, I.len⟩
  obtain ⟨hi, hv⟩ := hide_at hd
  obtain ⟨o, hr⟩ := view_at hv
  obtain ⟨v, h1, h2⟩ := I.rep i o d hr
  exact ⟨v, h1, Rep.weak _ (Rep.ext (G' := Gx G OS S) (Ext.refl _ _) (fun a g _ => ⟨g.1, fun j _ => g.2 j (by simp)⟩) _ h2) (I.gs hi)⟩
/-- the heap grew -/
theorem SInv.keep (I : SInv T n N sc X E α0 H0 G Bd r σ α H st OS) (e : Ext α H α1 H1) (w : WS α1 st1 H1) : SInv T n N sc X E α0 H0 G Bd r σ α1 H1 st1 OS :=
  ⟨I.ok, I.tk, I.slf, I.gf0, I.ext.trans e, w, I.len, I.lenR, fun i o d h => let ⟨v, h1, h2⟩ := I.rep i o d h; ⟨v, h1, Rep.ext e (fun a g _ => g) _ h2⟩, I.fr, fun i a ha => let ⟨u, hu⟩ := I.tr i a ha; e.tr hu, I.nd, I.dj, I.clo, I.clo _ _ _ _ _ _ I.bd ⟨KG.of e, fun _ g _ => g⟩⟩
def OSf (S : List Nat) (OS : Own1) : Own1 := fun j => if j ∈ S then [] else OS j
theorem OSf_sub {S : List Nat} {OS : Own1} {j : Nat} {a : Addr} (h : a ∈ OSf S OS j) : j ∉ S ∧ a ∈ OS j := by
  unfold OSf at h
  split at h
  · cases h
  · rename_i z
    exact ⟨z, h⟩
theorem Gx_f {S : List Nat} {OS : Own1} {a : Addr} : Gx G (OSf S OS) [] a ↔ Gx G OS S a := by
  constructor
  · rintro ⟨h1, h2⟩
    refine ⟨h1, fun j hj z => h2 j (by simp) ?_⟩
    unfold OSf
    rw [if_neg hj]
    exact z
  · rintro ⟨h1, h2⟩
    exact ⟨h1, fun j _ z => h2 j (OSf_sub z).1 (OSf_sub z).2⟩
theorem frz1_at (r : SRho) (i j : Nat) : (frz1 i r)[j]? = if j = i then (r[j]?).map (fun x => x.map fun p => (flatO p.2, p.2)) else r[j]? := by
  unfold frz1
  split
  · rename_i o d h
    by_cases z : j = i
    · subst z
      rw [if_pos rfl, List.getElem?_set_self (List.getElem?_eq_some_iff.mp h).1, h]
      rfl
    · rw [if_neg z, List.getElem?_set_ne (Ne.symm z)]
  · rename_i h
    by_cases z : j = i
    · subst z
      rw [if_pos rfl]
      cases q : r[j]? with
      | none => rfl
      | some x =>
        cases x with
        | none => rfl
        | some p => exact absurd q (by obtain ⟨o, d⟩ := p; exact fun w => h o d w)
    · rw [if_neg z]
theorem frz_at : ∀ (S : List Nat) (r : SRho) (j : Nat), (frz S r)[j]? = if j ∈ S then (r[j]?).map (fun x => x.map fun p => (flatO p.2, p.2)) else r[j]?
  | [], r, j => by simp [frz]
  | i :: S, r, j => by
    show (frz S (frz1 i r))[j]? = _
    rw [frz_at S, frz1_at]
    by_cases z : j = i
    · subst z
      rw [if_pos rfl, if_pos List.mem_cons_self]
      split
      · cases r[j]? with
        | none => rfl
        | some x => cases x <;> rfl
      · rfl
    · rw [if_neg z]
      by_cases m : j ∈ S
      · rw [if_pos m, if_pos (List.mem_cons_of_mem _ m)]
      · rw [if_neg m, if_neg fun w => (List.mem_cons.mp w).elim z m]
theorem frz_len : ∀ (S : List Nat) (r : SRho), (frz S r).length = r.length
  | [], r => rfl
  | i :: S, r => by
    show (frz S (frz1 i r)).length = _
    rw [frz_len S]
    unfold frz1
    split
    · rw [List.length_set]
    · rfl
/-- names' objects are shared from now on -/
theorem SInv.freeze (I : SInv T n N sc X E α0 H0 G Bd r σ α H st OS) (S : List Nat) : SInv T n N sc X E α0 H0 G Bd (frz S r) σ α H st (OSf S OS) := by
  refine ⟨I.ok, I.tk, I.slf, I.gf0, I.ext, I.ws, I.len, by rw [frz_len]; exact I.lenR, fun i o d h => ?_, fun i a ha => I.fr i a (OSf_sub ha).2, fun i a ha => I.tr i a (OSf_sub ha).2, fun i => ?_, fun i j hij a ha z => I.dj i j hij a (OSf_sub ha).2 (OSf_sub z).2, I.clo, I.clo _ _ _ _ _ _ I.bd ⟨KG.rfl', fun a g _ => Gx_f.mpr ⟨g.1, fun j _ => g.2 j (by simp)⟩⟩⟩
  · rw [frz_at] at h
    split at h
    · rename_i hi
      obtain ⟨x, hx, e⟩ := Option.map_eq_some_iff.mp h
      cases x with
      | none => cases e
      | some p =>
        obtain ⟨o1, d1⟩ := p
        have e' : flatO d1 = o ∧ d1 = d := by simpa using e
        obtain ⟨rfl, rfl⟩ := e'
        obtain ⟨v, h1, h2⟩ := I.rep i o1 d1 hx
        refine ⟨v, h1, ?_⟩
        have eO : OSf S OS i = [] := by unfold OSf; rw [if_pos hi]
        rw [eO]
        have w := Rep.weak _ (Rep.ext (G' := Gx G OS S) (Ext.refl _ _) (fun a g _ => ⟨g.1, fun j _ => g.2 j (by simp)⟩) _ h2) (I.gs hi)
        have w2 := Rep.ext (G' := Gx G (OSf S OS) []) (Ext.refl _ _) (fun a g _ => Gx_f.mpr g) _ w
        unfold flatO
        split
        · rename_i f
          exact (Rep.flat _ f w2).2
        · exact w2
    · rename_i hi
      obtain ⟨v, h1, h2⟩ := I.rep i o d h
      have eO : OSf S OS i = OS i := by unfold OSf; rw [if_neg hi]
      rw [eO]
      exact ⟨v, h1, Rep.ext (Ext.refl _ _) (fun a g _ => Gx_f.mpr ⟨g.1, fun j _ => g.2 j (by simp)⟩) _ h2⟩
  · unfold OSf
    split
    · exact List.nodup_nil
    · exact I.nd i
def OSp (i : Nat) (os : List Addr) (OS : Own1) : Own1 := fun j => if j = i then os else OS j
theorem OSp_at {i : Nat} {os : List Addr} {OS : Own1} : OSp i os OS i = os := by unfold OSp; rw [if_pos rfl]
theorem OSp_ne {i j : Nat} {os : List Addr} {OS : Own1} (h : j ≠ i) : OSp i os OS j = OS j := by unfold OSp; rw [if_neg h]
theorem SInv.lt (I : SInv T n N sc X E α0 H0 G Bd r σ α H st OS) {i : Nat} {x : Option VD} (h : r[i]? = some x) : i < N.length := by
  rw [← I.lenR]
  exact (List.getElem?_eq_some_iff.mp h).1
/-- new objects, kept aside at a place that is no name's -/
theorem SInv.adopt (I : SInv T n N sc X E α0 H0 G Bd r σ α H st OS) {m : Nat} (hm : N.length ≤ m) (e : Ext α H α1 H1) (w : WS α1 st1 H1) {os : List Addr} (fr : ∀ a ∈ os, H a = none) (tr : ∀ a ∈ os, ∃ u, H1 a = some u) (nd : os.Nodup) :
    SInv T n N sc X E α0 H0 G Bd r σ α1 H1 st1 (OSp m os OS) := by
  refine ⟨I.ok, I.tk, I.slf, I.gf0, I.ext.trans e, w, I.len, I.lenR, fun i o d h => ?_, fun i a ha => ?_, fun i a ha => ?_, fun i => ?_, fun i j hij a ha z => ?_, I.clo, I.clo _ _ _ _ _ _ I.bd ⟨KG.of e, fun a g ⟨u, hu⟩ => ⟨g.1, fun j _ z => ?_⟩⟩⟩
  · obtain ⟨v, h1, h2⟩ := I.rep i o d h
    have hi := I.lt h
    rw [OSp_ne (by omega)]
    refine ⟨v, h1, Rep.ext e (fun a g ⟨u, hu⟩ => ⟨g.1, fun j _ z => ?_⟩) _ h2⟩
    by_cases q : j = m
    · subst q
      rw [OSp_at] at z
      rw [fr a z] at hu; cases hu
    · rw [OSp_ne q] at z
      exact g.2 j (by simp) z
  · by_cases q : i = m
    · subst q
      rw [OSp_at] at ha
      exact I.ext.fresh (fr a ha)
    · rw [OSp_ne q] at ha
      exact I.fr i a ha
  · by_cases q : i = m
    · subst q
      rw [OSp_at] at ha
      exact tr a ha
    · rw [OSp_ne q] at ha
      obtain ⟨u, hu⟩ := I.tr i a ha
      exact e.tr hu
  · by_cases q : i = m
    · subst q
      rw [OSp_at]; exact nd
    · rw [OSp_ne q]; exact I.nd i
  · by_cases q : i = m
    · subst q
      rw [OSp_at] at ha
      rw [OSp_ne (Ne.symm hij)] at z
      obtain ⟨u, hu⟩ := I.tr j a z
      rw [fr a ha] at hu; cases hu
    · rw [OSp_ne q] at ha
      by_cases q2 : j = m
      · subst q2
        rw [OSp_at] at z
        obtain ⟨u, hu⟩ := I.tr i a ha
        rw [fr a z] at hu; cases hu
      · rw [OSp_ne q2] at z
        exact I.dj i j hij a ha z
  · by_cases q : j = m
    · subst q
      rw [OSp_at] at z
      rw [fr a z] at hu; cases hu
    · rw [OSp_ne q] at z
      exact g.2 j (by simp) z
/-- a name gets a value; what was aside goes with it in part -/
theorem SInv.take (I : SInv T n N sc X E α0 H0 G Bd r σ α H st OS) {m i : Nat} (hm : N.length ≤ m) (hi : i < N.length) (hq : N[i]? ≠ some ("self" : Str)) {o : Own} {d : D} {v : V} {os1 os2 : List Addr} (hO : OS m = os1 ++ os2) (rd : Rep X.K T.CT α (Gx G OS []) H d o v os1) :
    SInv T n N sc X E α0 H0 G Bd (put i (o, d) r) (σ.set i (some v)) α H st (OSp i os1 (OSp m os2 OS)) := by
  have im : i ≠ m := by omega
  have at_i : OSp i os1 (OSp m os2 OS) i = os1 := OSp_at
  have at_m : OSp i os1 (OSp m os2 OS) m = os2 := by rw [OSp_ne (Ne.symm im), OSp_at]
  have at_o : ∀ j, j ≠ i → j ≠ m → OSp i os1 (OSp m os2 OS) j = OS j := fun j h1 h2 => by rw [OSp_ne h1, OSp_ne h2]
  -- every place's objects stood somewhere
  have from_ : ∀ j a, a ∈ OSp i os1 (OSp m os2 OS) j → (j = i ∧ a ∈ os1 ∧ a ∈ OS m) ∨ (j = m ∧ a ∈ os2 ∧ a ∈ OS m) ∨ (j ≠ i ∧ j ≠ m ∧ a ∈ OS j) := fun j a ha => by
    by_cases q : j = i
    · subst q
      rw [at_i] at ha
      exact .inl ⟨rfl, ha, by rw [hO]; exact List.mem_append_left _ ha⟩
    · by_cases q2 : j = m
      · subst q2
        rw [at_m] at ha
        exact .inr (.inl ⟨rfl, ha, by rw [hO]; exact List.mem_append_right _ ha⟩)
      · rw [at_o j q q2] at ha
        exact .inr (.inr ⟨q, q2, ha⟩)
  have gi : ∀ a, Gx G OS [] a → Gx G (OSp i os1 (OSp m os2 OS)) [] a := fun a h => ⟨h.1, fun j _ z => by
    rcases from_ j a z with ⟨_, _, w⟩ | ⟨_, _, w⟩ | ⟨_, _, w⟩
    · exact h.2 m (by simp) w
    · exact h.2 m (by simp) w
    · exact h.2 j (by simp) w⟩
  have ndm := I.nd m
  rw [hO] at ndm
  obtain ⟨n1, n2, n3⟩ := List.nodup_append.mp ndm
  refine ⟨I.ok, I.tk, fun w hw => ⟨(I.slf w hw).1, by rw [List.getElem?_set_ne (fun z => hq (by rw [z]; exact (I.slf w hw).1))]; exact (I.slf w hw).2⟩, I.gf0, I.ext, I.ws, by rw [List.length_set]; exact I.len, by unfold PD.put; rw [List.length_set]; exact I.lenR, fun j o' d' h => ?_, fun j a ha => ?_, fun j a ha => ?_, fun j => ?_, fun j k hjk a ha z => ?_, I.clo, I.clo _ _ _ _ _ _ I.bd ⟨KG.rfl', fun a g _ => gi a g⟩⟩
  · unfold PD.put at h
    by_cases z : j = i
    · subst z
      rw [List.getElem?_set_self (by rw [I.lenR]; exact hi)] at h
      cases h
      refine ⟨v, by rw [List.getElem?_set_self (by rw [I.len]; exact hi)], ?_⟩
      rw [at_i]
      exact Rep.ext (Ext.refl _ _) (fun a g _ => gi a g) _ rd
    · rw [List.getElem?_set_ne (Ne.symm z)] at h
      obtain ⟨w, h1, h2⟩ := I.rep j o' d' h
      have hj := I.lt h
      refine ⟨w, by rw [List.getElem?_set_ne (Ne.symm z)]; exact h1, ?_⟩
      rw [at_o j z (by omega)]
      exact Rep.ext (Ext.refl _ _) (fun a g _ => gi a g) _ h2
  · rcases from_ j a ha with ⟨_, _, w⟩ | ⟨_, _, w⟩ | ⟨_, _, w⟩ <;> exact I.fr _ a w
  · rcases from_ j a ha with ⟨_, _, w⟩ | ⟨_, _, w⟩ | ⟨_, _, w⟩ <;> exact I.tr _ a w
  · by_cases q : j = i
    · subst q
      rw [at_i]; exact n1
    · by_cases q2 : j = m
      · subst q2
        rw [at_m]; exact n2
      · rw [at_o j q q2]; exact I.nd j
  · rcases from_ j a ha with ⟨q1, w1, w2⟩ | ⟨q1, w1, w2⟩ | ⟨q1, q1', w2⟩
    · rcases from_ k a z with ⟨q2, _, _⟩ | ⟨q2, y1, _⟩ | ⟨_, q2', y2⟩
      · exact hjk (q1.trans q2.symm)
      · exact n3 a w1 a y1 rfl
      · exact I.dj m k (Ne.symm q2') a w2 y2
    · rcases from_ k a z with ⟨q2, y1, _⟩ | ⟨q2, _, _⟩ | ⟨_, q2', y2⟩
      · exact n3 a y1 a w1 rfl
      · exact hjk (q1.trans q2.symm)
      · exact I.dj m k (Ne.symm q2') a w2 y2
    · rcases from_ k a z with ⟨q2, _, y2⟩ | ⟨q2, _, y2⟩ | ⟨_, q2', y2⟩
      · exact I.dj j m q1' a w2 y2
      · exact I.dj j m q1' a w2 y2
      · exact I.dj j k hjk a w2 y2
def fzO (o : Own) (S : List Nat) (OS : Own1) : Own1 := if o = .all then OS else OSf S OS
/-- behind an expression: its names' objects are shared unless all of the value is new; the value's objects are aside -/
theorem SInv.got (I : SInv T n N sc X E α0 H0 G Bd r σ α H st OS) {S : List Nat} {m : Nat} (hm : N.length ≤ m) {o : Own} {d : D} {v : V} {os : List Addr} (p : Post X.K T.CT α H (Gx G OS S) st1 o d v H1 α1 os) :
    SInv T n N sc X E α0 H0 G Bd (fz o S r) σ α1 H1 st1 (OSp m os (fzO o S OS)) ∧ Rep X.K T.CT α1 (Gx G (OSp m os (fzO o S OS)) []) H1 d o v os := by
  by_cases c : o = .all
  · subst c
    have e1 : fz .all S r = r := by unfold fz; rw [if_pos rfl]
    have e2 : fzO .all S OS = OS := by unfold fzO; rw [if_pos rfl]
    rw [e1, e2]
    exact ⟨I.adopt hm p.ext p.ws p.fr p.tr p.nd, Rep.all _ p.rep⟩
  · have e1 : fz o S r = frz S r := by unfold fz; rw [if_neg c]
    have e2 : fzO o S OS = OSf S OS := by unfold fzO; rw [if_neg c]
    rw [e1, e2]
    refine ⟨(I.freeze S).adopt hm p.ext p.ws p.fr p.tr p.nd, Rep.ext (Ext.refl _ _) (fun a g _ => ⟨g.1.1, fun j _ z => ?_⟩) _ p.rep⟩
    by_cases q : j = m
    · subst q
      rw [OSp_at] at z
      exact g.2 z
    · rw [OSp_ne q] at z
      obtain ⟨h1, h2⟩ := OSf_sub z
      exact g.1.2 j h1 h2
end

/-! ### statements -/
section
variable (K : PySem.W.Frag) (CT : CTab) (E : XK) (α0 : List Addr) (H0 : Hp) (G : Addr → Prop)
/-- an exception of the def -/
def ExcE (c : Nat) (ds : List D) (st' : Store) : Prop := ∀ H' α' cls dd, Ext α0 H0 α' H' → WS α' st' H' → ExcRep K CT α' G H' c ds cls dd → E cls dd H'
end
/-- what is wanted behind a statement, by its ends -/
def SatS (T : Tab) (n : Nat) (N : List Str) (sc : Scope) (X : Cx) (E : XK) (α0 : List Addr) (H0 : Hp) (G : Addr → Prop) (Bd : List Addr → Hp → Own1 → Prop) (D : Ends) : R Fl → Prop
  | .ok (.next r) st' => ∀ σ' α' H' OS, SInv T n N sc X E α0 H0 G Bd r σ' α' H' st' OS → D.nx σ' H'
  | .ok (.brk r) st' => ∀ σ' α' H' OS, SInv T n N sc X E α0 H0 G Bd r σ' α' H' st' OS → D.bk σ' H'
  | .ok (.cnt r) st' => ∀ σ' α' H' OS, SInv T n N sc X E α0 H0 G Bd r σ' α' H' st' OS → D.ct σ' H'
  | .ok (.ret v) st' => ∀ x H' α' os, Post X.K T.CT α0 H0 G st' v.1 v.2 x H' α' os → D.rt x H'
  | .exc c ds st' => ExcE X.K T.CT E α0 H0 G c ds st'
  | .no => False
def wS (X : Cx) (s : Stmt) : TS := fun D σ H => ∀ pins sh, Inv X pins σ H sh → wpAny (model X.prog X.w) X.A (exec s X.env) (SP X pins D) X.xe sh
theorem ps_w {X : Cx} {s : Stmt} : PS X s (wS X s) := ⟨fun pins sh _ _ _ I h => h pins sh I⟩
theorem wS.of {X : Cx} {s : Stmt} {t : TS} {σ : L2.St} {H : Hp} {D : Ends} (h : PS X s t) (q : t D σ H) : wS X s D σ H := fun pins sh I => h.run pins sh σ H D I q
def wSs (X : Cx) (s : List Stmt) : TS := fun D σ H => ∀ pins sh, Inv X pins σ H sh → wpAny (model X.prog X.w) X.A (execs s X.env) (SP X pins D) X.xe sh
theorem pss_w {X : Cx} {s : List Stmt} : PSs X s (wSs X s) := ⟨fun pins sh _ _ _ I h => h pins sh I⟩
theorem wSs.of {X : Cx} {s : List Stmt} {t : TS} {σ : L2.St} {H : Hp} {D : Ends} (h : PSs X s t) (q : t D σ H) : wSs X s D σ H := fun pins sh I => h.run pins sh σ H D I q
/-- what statements ask of the context besides -/
structure SOk (sc : Scope) (X : Cx) : Prop where
  fn : ∀ x, sc.names.lookup x = some .cell → X.fn x = true
  hp : PassesOwn (model X.prog X.w) X.A X.env X.xe
def ImplS (T : Tab) (N : List Str) (sc : Scope) (s : Stmt) (s' : Sm) : Prop := ∀ (n : Nat) (X : Cx) (E : XK) (α0 : List Addr) (H0 : Hp) (G : Addr → Prop) (Bd : List Addr → Hp → Own1 → Prop) (r : SRho) (σ : L2.St) (α : List Addr) (H : Hp) (st : Store) (OS : Own1) (D : Ends),
  SOk sc X → SInv T n N sc X E α0 H0 G Bd r σ α H st OS → SatS T n N sc X E α0 H0 G Bd D (evS (T.P.env n) T.P.wf s' r st) → wS X s D σ H
def ImplSs (T : Tab) (N : List Str) (sc : Scope) (s : List Stmt) (s' : Sms) : Prop := ∀ (n : Nat) (X : Cx) (E : XK) (α0 : List Addr) (H0 : Hp) (G : Addr → Prop) (Bd : List Addr → Hp → Own1 → Prop) (r : SRho) (σ : L2.St) (α : List Addr) (H : Hp) (st : Store) (OS : Own1) (D : Ends),
  SOk sc X → SInv T n N sc X E α0 H0 G Bd r σ α H st OS → SatS T n N sc X E α0 H0 G Bd D (evSs (T.P.env n) T.P.wf s' r st) → wSs X s D σ H
section
variable {T : Tab} {N : List Str} {sc : Scope}
variable {n : Nat} {X : Cx} {E : XK} {α0 α α1 : List Addr} {H0 H H1 : Hp} {G : Addr → Prop} {Bd : List Addr → Hp → Own1 → Prop} {r : SRho} {σ : L2.St} {st st1 : Store} {OS : Own1} {D : Ends}
/-- an expression ahead of the rest -/
theorem SatS.bind (I : SInv T n N sc X E α0 H0 G Bd r σ α H st OS) {S : List Nat} {m : R VD} {f : VD → Store → R Fl} (h : SatS T n N sc X E α0 H0 G Bd D (m.bind f)) :
    SatE X.K T.CT (fun c d _ H' => E c d H') σ α H (Gx G OS S) (fun x H' => ∃ v st' α' os, Post X.K T.CT α H (Gx G OS S) st' v.1 v.2 x H' α' os ∧ SatS T n N sc X E α0 H0 G Bd D (f v st')) m := by
  cases m with
  | ok v st' => exact fun x H' α' os p => ⟨v, st', α', os, p, h⟩
  | exc c ds st' => exact fun H' α' cls dd e w x => h H' α' cls dd (I.ext.trans e) w (x.mono fun a g => g.1)
  | no => exact h.elim
/-- .. a test -/
theorem SatS.bindT (I : SInv T n N sc X E α0 H0 G Bd r σ α H st OS) {S : List Nat} {m : R VD} {a b : Store → R Fl} {f : VD → Store → R Fl} (hf : ∀ v st, f v st = match truthD v.2 with | some true => a st | some false => b st | none => .no) (h : SatS T n N sc X E α0 H0 G Bd D (m.bind f)) :
    SatT X.K T.CT (fun c d _ H' => E c d H') σ α H (Gx G OS S) (fun c H' => ∃ st' α', Ext α H α' H' ∧ WS α' st' H' ∧ SatS T n N sc X E α0 H0 G Bd D (if c = true then a st' else b st')) m := by
  cases m with
  | ok v st' =>
    have h : SatS T n N sc X E α0 H0 G Bd D (f v st') := h
    rw [hf] at h
    cases q : truthD v.2 with
    | none => rw [q] at h; exact h.elim
    | some c =>
      refine ⟨c, q, fun H' α' e w => ⟨st', α', e, w, ?_⟩⟩
      cases c <;> simpa [q] using h
  | exc c ds st' => exact fun H' α' cls dd e w x => h H' α' cls dd (I.ext.trans e) w (x.mono fun a g => g.1)
  | no => exact h.elim
/-- an expression of a statement is evaluated -/
theorem ImplE.at {e : Expr} {e' : Ex} (he : ImplE T N sc e e') (I : SInv T n N sc X E α0 H0 G Bd r σ α H st OS) {f : VD → Store → R Fl} (h : SatS T n N sc X E α0 H0 G Bd D ((evE (T.P.env n) e' (view r) st).bind f)) :
    wE X e σ H fun x H' => ∃ v st' α' os, Post X.K T.CT α H (Gx G OS (exV e')) st' v.1 v.2 x H' α' os ∧ SatS T n N sc X E α0 H0 G Bd D (f v st') := by
  rw [evE_fr (T.P.env n) e' st (agr_hide (exV e') (view r))] at h
  exact he n X _ σ H _ st α _ _ (I.sit (exV e')) (SatS.bind I h)
theorem ImplT.at {e : Expr} {e' : Ex} (he : ImplT T N sc e e') (I : SInv T n N sc X E α0 H0 G Bd r σ α H st OS) {a b : Store → R Fl} {f : VD → Store → R Fl} (hf : ∀ v st, f v st = match truthD v.2 with | some true => a st | some false => b st | none => .no) (h : SatS T n N sc X E α0 H0 G Bd D ((evE (T.P.env n) e' (view r) st).bind f)) :
    wT X e σ H fun c H' => ∃ st' α', Ext α H α' H' ∧ WS α' st' H' ∧ SatS T n N sc X E α0 H0 G Bd D (if c = true then a st' else b st') := by
  rw [evE_fr (T.P.env n) e' st (agr_hide (exV e') (view r))] at h
  exact he n X _ σ H _ st α _ _ (I.sit (exV e')) (SatS.bindT I hf h)

/-! ### the forms -/
theorem impl_sNil : ImplSs T N sc [] .nil := by
  intro n X E α0 H0 G Bd r σ α H st OS D hfn I h
  unfold evSs at h
  exact wSs.of pss_nil (h σ α H OS I)
theorem impl_sCons {s : Stmt} {ss : List Stmt} {s' : Sm} {ss' : Sms} (h1 : ImplS T N sc s s') (h2 : ImplSs T N sc ss ss') : ImplSs T N sc (s :: ss) (.cons s' ss') := by
  intro n X E α0 H0 G Bd r σ α H st OS D hfn I h
  unfold evSs at h
  refine wSs.of (pss_cons ps_w pss_w) ?_
  refine h1 n X E α0 H0 G Bd r σ α H st OS _ hfn I ?_
  cases hm : evS (T.P.env n) T.P.wf s' r st with
  | ok fl st' =>
    rw [hm] at h
    cases fl with
    | next r' => exact fun σ' α' H' OS' I' => h2 n X E α0 H0 G Bd r' σ' α' H' st' OS' D hfn I' h
    | ret v => exact h
    | brk r' => exact h
    | cnt r' => exact h
  | exc c ds st' => rw [hm] at h; exact h
  | no => rw [hm] at h; exact h.elim
theorem impl_pass {pos : Pos} : ImplS T N sc (.Pass pos) .pass := by
  intro n X E α0 H0 G Bd r σ α H st OS D hfn I h
  unfold evS at h
  exact wS.of ps_pass (h σ α H OS I)
theorem impl_brk {pos : Pos} : ImplS T N sc (.Break pos) .brk := by
  intro n X E α0 H0 G Bd r σ α H st OS D hfn I h
  unfold evS at h
  exact wS.of ps_break (h σ α H OS I)
theorem impl_cnt {pos : Pos} : ImplS T N sc (.Continue pos) .cnt := by
  intro n X E α0 H0 G Bd r σ α H st OS D hfn I h
  unfold evS at h
  exact wS.of ps_continue (h σ α H OS I)
theorem impl_never {s : Stmt} : ImplS T N sc s .never := by
  intro n X E α0 H0 G Bd r σ α H st OS D hfn I h
  unfold evS at h
  exact h.elim
theorem impl_exp {e : Expr} {e' : Ex} {pos : Pos} (he : ImplE T N sc e e') (hs : ∀ env : PySem.Env, swapsWith e none pos.line env = pure false) : ImplS T N sc (.Expr e pos) (.exp e') := by
  intro n X E α0 H0 G Bd r σ α H st OS D hfn I h
  unfold evS at h
  refine wS.of (ps_expr pe_w (hs X.env)) ?_
  exact wE.mono (he.at I h) fun x H1 ⟨v, st1, α1, os1, p1, h1⟩ => h1 σ α1 H1 OS (I.keep p1.ext p1.ws)
theorem impl_retN {pos : Pos} : ImplS T N sc (.Return none pos) .retN := by
  intro n X E α0 H0 G Bd r σ α H st OS D hfn I h
  unfold evS at h
  refine wS.of ps_retN ?_
  exact h .non H α [] ((Post.non I.ws).from I.ext fun _ g => g)
theorem impl_ret {e : Expr} {e' : Ex} {pos : Pos} (he : ImplE T N sc e e') : ImplS T N sc (.Return (some e) pos) (.ret e') := by
  intro n X E α0 H0 G Bd r σ α H st OS D hfn I h
  unfold evS at h
  refine wS.of (ps_ret pe_w) ?_
  exact wE.mono (he.at I h) fun x H1 ⟨v, st1, α1, os1, p1, h1⟩ => h1 x H1 α1 os1 (p1.from I.ext fun a g => g.1)
/-- a name's value goes with its objects -/
theorem impl_retV {x : Str} {i : Nat} {p pos : Pos} (hi : N[i]? = some x) (hv : Vis sc x) (h1 : (x == ("__debug__" : Str)) = false) (h2 : (x == ("__classdict__" : Str)) = false) : ImplS T N sc (.Return (some (.Name x p)) pos) (.retV i) := by
  intro n X E α0 H0 G Bd r σ α H st OS D hfn I h
  unfold evS at h
  refine wS.of (ps_ret pe_w) ?_
  refine wE.of (pe_var (by rw [I.ok.hN]; exact hi) (by rw [I.ok.hsc]; exact hv) h1 h2) ?_
  split at h
  · rename_i w hr
    obtain ⟨o, d⟩ := w
    obtain ⟨v, k1, k2⟩ := I.rep i o d hr
    refine ⟨v, k1, h v H α (OS i) ⟨I.ext, I.ws, Rep.ext (Ext.refl _ _) (fun a g _ => ⟨g.1, g.2 i (by simp)⟩) _ k2, I.fr i, I.nd i⟩⟩
  · exact h.elim
theorem impl_ifS {c : Expr} {a b : List Stmt} {c' : Ex} {a' b' : Sms} {pos : Pos} (hc : ImplT T N sc c c') (ha : ImplSs T N sc a a') (hb : ImplSs T N sc b b') : ImplS T N sc (.If c a b pos) (.ifS c' a' b') := by
  intro n X E α0 H0 G Bd r σ α H st OS D hfn I h
  unfold evS at h
  refine wS.of (ps_if pt_w pss_w pss_w) ?_
  refine wT.mono (hc.at I (a := fun st => evSs (T.P.env n) T.P.wf a' r st) (b := fun st => evSs (T.P.env n) T.P.wf b' r st) (fun v st => rfl) h) fun k H1 ⟨st1, α1, e1, w1, h1⟩ => ?_
  cases k with
  | true => exact ha n X E α0 H0 G Bd r σ α1 H1 st1 OS D hfn (I.keep e1 w1) h1
  | false => exact hb n X E α0 H0 G Bd r σ α1 H1 st1 OS D hfn (I.keep e1 w1) h1
/-- name = e -/
theorem impl_asg {x : Str} {i : Nat} {e : Expr} {e' : Ex} {p pos : Pos} (hi : N[i]? = some x) (hne : x ≠ ("self" : Str)) (hl : sc.names.lookup x = some .local ∨ sc.names.lookup x = some .cell) (he : ImplE T N sc e e') (hs : ∀ env : PySem.Env, env.scope = sc → swapsWith e (some (.Name x p)) pos.line env = pure false) : ImplS T N sc (.Assign [.Name x p] e pos) (.asg i e') := by
  intro n X E α0 H0 G Bd r σ α H st OS D hfn I h
  unfold evS at h
  have lt : i < N.length := (List.getElem?_eq_some_iff.mp hi).1
  refine wS.of (ps_set (by rw [I.ok.hN]; exact I.ok.nd) (by rw [I.ok.hN]; exact hi) (by rw [I.ok.hsc]; exact hl) pe_w (hs X.env I.ok.hsc) ?_) ?_
  · rcases hl with z | z
    · exact .inr (by rw [I.ok.hsc]; exact z)
    · exact .inl (hfn.fn x z)
  refine wE.mono (he.at I h) fun y H1 ⟨v, st1, α1, os1, p1, h1⟩ => ?_
  obtain ⟨I1, rv⟩ := I.got (m := N.length) (Nat.le_refl _) p1
  exact h1 _ α1 H1 _ (I1.take (Nat.le_refl _) lt (by rw [hi]; exact fun z => hne (Option.some.inj z)) (os1 := os1) (os2 := []) (by rw [OSp_at, List.append_nil]) rv)
end
end PD
/-! DSt2: loops -/
namespace PD
open PySem PySem.Spec PyProof.Rows L2
section
variable {T : Tab} {N : List Str} {sc : Scope} {n : Nat} {X : Cx} {E : XK} {α0 α α1 : List Addr} {H0 H H1 : Hp} {G : Addr → Prop} {Bd Bd' : List Addr → Hp → Own1 → Prop} {r : SRho} {σ : L2.St} {st st1 : Store} {OS : Own1} {De : Ends}
theorem SInv.bound (I : SInv T n N sc X E α0 H0 G Bd r σ α H st OS) (c : Clo G Bd') (b : Bd' α H OS) : SInv T n N sc X E α0 H0 G Bd' r σ α H st OS :=
  ⟨I.ok, I.tk, I.slf, I.gf0, I.ext, I.ws, I.len, I.lenR, I.rep, I.fr, I.tr, I.nd, I.dj, c, b⟩
/-- values to names, as they are -/
theorem puts_ok {m : Nat} (hm : N.length ≤ m) : ∀ (is : List Nat) (ds : List D) (vs : List V) {r r' : SRho} {σ : L2.St} {OS : Own1}, SInv T n N sc X E α0 H0 G Bd r σ α H st OS → OS m = [] → RepL X.K T.CT α (Gx G OS []) H ds .no vs [] → puts is ds r = some r' → (∀ i ∈ is, i < N.length ∧ N[i]? ≠ some ("self" : Str)) →
    ∃ OS', SInv T n N sc X E α0 H0 G Bd r' (setsV is vs σ) α H st OS' ∧ is.length = vs.length
  | [], [], vs, r, r', σ, OS, I, _, rl, h, _ => by
    unfold puts at h
    cases h
    unfold RepL at rl
    rw [rl.1]
    exact ⟨OS, I, rfl⟩
  | i :: is, d :: ds, vs, r, r', σ, OS, I, hO, rl, h, hi => by
    unfold puts at h
    unfold RepL at rl
    obtain ⟨v, vs', os1, os2, rfl, h2, h3, h4⟩ := rl
    obtain ⟨rfl, rfl⟩ := List.append_eq_nil_iff.mp h2.symm
    have rd : Rep X.K T.CT α (Gx G OS []) H d (flatO d) v [] := by
      unfold flatO
      split
      · rename_i f
        exact (Rep.flat _ f h3).2
      · exact h3
    have I1 := I.take hm (hi i List.mem_cons_self).1 (hi i List.mem_cons_self).2 (os1 := []) (os2 := []) hO rd
    have im : i ≠ m := by have := (hi i List.mem_cons_self).1; omega
    have sub : ∀ j a, a ∈ OSp i [] (OSp m [] OS) j → a ∈ OS j := fun j a ha => by
      by_cases q : j = i
      · subst q; rw [OSp_at] at ha; cases ha
      · rw [OSp_ne q] at ha
        by_cases q2 : j = m
        · subst q2; rw [OSp_at] at ha; cases ha
        · rw [OSp_ne q2] at ha; exact ha
    obtain ⟨OS', I2, l⟩ := puts_ok hm is ds vs' I1 (by rw [OSp_ne (Ne.symm im), OSp_at]) (RepL.ext (Ext.refl _ _) (fun a g _ => ⟨g.1, fun j _ z => g.2 j (by simp) (sub j a z)⟩) _ h4) h fun j hj => hi j (List.mem_cons_of_mem _ hj)
    exact ⟨OS', I2, by rw [List.length_cons, List.length_cons, l]⟩
  | [], _ :: _, _, _, _, _, _, _, _, _, h, _ => by unfold puts at h; cases h
  | _ :: _, [], _, _, _, _, _, _, _, _, h, _ => by unfold puts at h; cases h
/-- a target's store in a def -/
theorem tgS_ok {tg' : Tg} {d : D} {v : V} {r' : SRho} (I : SInv T n N sc X E α0 H0 G Bd r σ α H st OS) (rd : Rep X.K T.CT α (Gx G OS []) H d .no v []) (hb : bindS tg' d r = some r') (hi : ∀ i ∈ slotsOf tg', i < N.length ∧ N[i]? ≠ some ("self" : Str)) {Q : L2.St → Hp → Prop}
    (q : ∀ σ' OS', SInv T n N sc X E α0 H0 G Bd r' σ' α H st OS' → Q σ' H) : gOf X.K tg' v σ H Q := by
  have I0 := I.adopt (m := N.length) (Nat.le_refl _) (Ext.refl _ _) I.ws (os := []) (fun _ z => (by cases z)) (fun _ z => (by cases z)) List.nodup_nil
  have g0 : ∀ a, Gx G OS [] a → Gx G (OSp N.length [] OS) [] a := fun a g => ⟨g.1, fun j _ z => by
    by_cases q : j = N.length
    · subst q; rw [OSp_at] at z; cases z
    · rw [OSp_ne q] at z; exact g.2 j (by simp) z⟩
  cases tg' with
  | nm i =>
    have rl : RepL X.K T.CT α (Gx G (OSp N.length [] OS) []) H [d] .no [v] [] := by
      unfold RepL
      exact ⟨v, [], [], [], rfl, rfl, Rep.ext (Ext.refl _ _) (fun a g _ => g0 a g) _ rd, repL_nil⟩
    obtain ⟨OS', I1, _⟩ := puts_ok (Nat.le_refl _) [i] [d] [v] I0 OSp_at rl hb hi
    exact q _ _ I1
  | tp is =>
    unfold bindS at hb
    simp only at hb
    split at hb
    · rename_i ds
      obtain ⟨a, vs, rfl, ha, rl⟩ := tup_of rd
      obtain ⟨OS', I1, l⟩ := puts_ok (Nat.le_refl _) is ds vs I0 OSp_at (RepL.ext (Ext.refl _ _) (fun a g _ => g0 a g) _ rl) hb hi
      exact ⟨a, vs, rfl, ha.sqT, l.symm, gsOf_ok is l.symm (q _ _ I1)⟩
    · cases hb
/-- what is walked, in a statement -/
theorem ImplI.at {tg iter : Expr} {it' : It} (hi : ImplI T N sc tg iter it') (I : SInv T n N sc X E α0 H0 G Bd r σ α H st OS) {f : List D → Store → R Fl} (h : SatS T n N sc X E α0 H0 G Bd De ((evIt (T.P.env n) it' (view r) st).bind f)) :
    wI X tg iter σ H fun J H' => ∃ xs st' α', Ext α H α' H' ∧ WS α' st' H' ∧ WalkD X.K T.CT (Gx G OS (itV it')) α' H' J xs ∧ SatS T n N sc X E α0 H0 G Bd De (f xs st') := by
  rw [evIt_fr (T.P.env n) it' st (agr_hide (itV it') (view r))] at h
  refine hi n X _ σ H _ st α _ _ (I.sit (itV it')) ?_
  cases hm : evIt (T.P.env n) it' (hide (itV it') (view r)) st with
  | ok v st' =>
    rw [hm] at h
    exact fun J H' α' e w k => ⟨v, st', α', e, w, k, h⟩
  | exc c ds st' =>
    rw [hm] at h
    exact fun H' α' cls dd e w x => h H' α' cls dd (I.ext.trans e) w (x.mono fun a g => g.1)
  | no => rw [hm] at h; exact h.elim
def locF (sc : Scope) (x : Str) : Bool := decide (sc.names.lookup x = some .local) || decide (sc.names.lookup x = some .cell)
theorem locF_by (ok : XOk T n N sc X) (hfn : SOk sc X) : ∀ x, locF sc x = true → Loc X.env.scope x ∧ (X.fn x = true ∨ X.env.scope.names.lookup x = some .local) := fun x h => by
  unfold locF at h
  simp only [Bool.or_eq_true, decide_eq_true_eq] at h
  rw [ok.hsc]
  rcases h with h | h
  · exact ⟨.inl h, .inr h⟩
  · exact ⟨.inr h, .inl (hfn.fn x h)⟩
theorem impl_for {tg iter : Expr} {body : List Stmt} {pos : Pos} {tg' : Tg} {it' : It} {b' : Sms} (ht : okTg (locF sc) N tg tg' = true) (hsl : (slotsOf tg').all (fun i => decide (i < N.length ∧ N[i]? ≠ some ("self" : Str))) = true) (hns : notSet iter = true) (hi : ImplI T N sc tg iter it') (hb : ImplSs T N sc body b') : ImplS T N sc (.For tg iter body [] pos) (.forS tg' it' b') := by
  intro n X E α0 H0 G Bd r σ α H st OS D hfn I h
  unfold evS at h
  refine wS.of (ps_for (g := gOf X.K tg') hfn.hp I.ok.calm pi_w (pg_of I.ok.hN I.ok.nd I.ok.calm (locF_by I.ok hfn) ht) pss_w (notSet_by hns X.env)) ?_
  refine wI.mono (hi.at I h) fun J H1 ⟨xs, st1, α1, e1, w1, wk, h1⟩ => ?_
  have I1 := (I.keep e1 w1).freeze (itV it')
  obtain ⟨Gd, Y, wlk, keepG, yld⟩ := wk
  -- what is walked is kept meanwhile
  have clo' : Clo G (fun α' H' OS' => Bd α' H' OS' ∧ Stp G α1 H1 (OSf (itV it') OS) α' H' OS') := fun a b c a' b' c' h s => ⟨I.clo _ _ _ _ _ _ h.1 s, h.2.trans s⟩
  have hsl' : ∀ i ∈ slotsOf tg', i < N.length ∧ N[i]? ≠ some ("self" : Str) := fun j hj => of_decide_eq_true (List.all_eq_true.mp hsl j hj)
  refine for_it wlk (fun i σi Hi => ∃ ri αi sti OSi, SInv T n N sc X E α0 H0 G (fun α' H' OS' => Bd α' H' OS' ∧ Stp G α1 H1 (OSf (itV it') OS) α' H' OS') ri σi αi Hi sti OSi ∧ SatS T n N sc X E α0 H0 G Bd D (loopF tg' (evSs (T.P.env n) T.P.wf b') (xs.drop i) ri sti)) ?_ ?_ ?_ ?_
  · exact ⟨_, α1, st1, _, I1.bound clo' ⟨I1.bd, Stp.refl⟩, by rw [List.drop_zero]; exact h1⟩
  · rintro i σi Hi _ ⟨ri, αi, sti, OSi, Ii, _⟩
    exact keepG αi Hi (Ii.bd.2.kg.mono fun a g _ => Gx_f.mpr g)
  · rintro i x σi Hi Hx hi ⟨ri, αi, sti, OSi, Ii, hs⟩ y
    obtain ⟨d, hd, ex, rd, hx⟩ := yld i x αi Hi Hx (Gx G OSi []) hi (Ii.bd.2.kg.mono fun a g _ => Gx_f.mpr g) Ii.ws.trk (fun a g t => Ii.bd.2.sh a (Gx_f.mpr g) t) y
    have wx : WS αi sti Hx := by
      rcases hx with rfl | ⟨T0, ts, hT, rfl⟩
      · exact Ii.ws
      · exact Ii.ws.new hT
    rw [List.drop_eq_getElem_cons hi] at hs
    have ed : xs[i] = d := by
      rw [List.getElem?_eq_getElem hi] at hd
      exact Option.some.inj hd
    rw [ed] at hs
    unfold loopF at hs
    cases hbd : bindS tg' d ri with
    | none => rw [hbd] at hs; exact hs.elim
    | some r' =>
      rw [hbd] at hs
      refine tgS_ok (Ii.keep ex wx) rd hbd hsl' fun σ2 OS2 I2 => ?_
      refine hb n X E α0 H0 G _ r' σ2 αi Hx sti OS2 _ hfn I2 ?_
      simp only at hs
      cases hm : evSs (T.P.env n) T.P.wf b' r' sti with
      | ok fl st3 =>
        rw [hm] at hs
        cases fl with
        | next r3 => exact fun σ' α' H' OS' I' => ⟨r3, α', st3, OS', I', hs⟩
        | cnt r3 => exact fun σ' α' H' OS' I' => ⟨r3, α', st3, OS', I', hs⟩
        | brk r3 => exact fun σ' α' H' OS' I' => hs σ' α' H' OS' (I'.bound I.clo I'.bd.1)
        | ret v => exact hs
      | exc c ds st3 => rw [hm] at hs; exact hs
      | no => rw [hm] at hs; exact hs.elim
  · rintro σn Hn ⟨ri, αi, sti, OSi, Ii, hs⟩
    rw [List.drop_length] at hs
    unfold loopF at hs
    exact hs σn αi Hn OSi (Ii.bound I.clo Ii.bd.1)
theorem impl_while {c : Expr} {body : List Stmt} {pos : Pos} {c' : Ex} {b' : Sms} (hc : ImplT T N sc c c') (hb : ImplSs T N sc body b') : ImplS T N sc (.While c body [] pos) (.whileS c' b') := by
  intro n X E α0 H0 G Bd r σ α H st OS D hfn I h
  unfold evS at h
  refine wS.of (ps_while hfn.hp pt_w pss_w) ?_
  refine ⟨fun m σi Hi => ∃ ri αi sti OSi, SInv T n N sc X E α0 H0 G Bd ri σi αi Hi sti OSi ∧ SatS T n N sc X E α0 H0 G Bd D (loopW (fun r st => evE (T.P.env n) c' (view r) st) (fun r st => evSs (T.P.env n) T.P.wf b' r st) m ri sti), ⟨T.P.wf, r, α, st, OS, I, h⟩, ?_⟩
  rintro m σi Hi ⟨ri, αi, sti, OSi, Ii, hs⟩
  cases m with
  | zero => exact hs.elim
  | succ m =>
    unfold loopW at hs
    refine wT.mono (hc.at Ii (a := fun st => (evSs (T.P.env n) T.P.wf b' ri st).bind fun fl st => match fl with
      | .next r => loopW (fun r st => evE (T.P.env n) c' (view r) st) (fun r st => evSs (T.P.env n) T.P.wf b' r st) m r st
      | .cnt r => loopW (fun r st => evE (T.P.env n) c' (view r) st) (fun r st => evSs (T.P.env n) T.P.wf b' r st) m r st
      | .brk r => .ok (.next r) st
      | .ret v => .ok (.ret v) st) (b := fun st => .ok (.next ri) st) (fun v st => rfl) hs) fun k H1 ⟨st1, α1, e1, w1, h1⟩ => ?_
    have I1 := Ii.keep e1 w1
    cases k with
    | false => exact h1 σi α1 H1 OSi I1
    | true =>
      refine ⟨fun σ' H' => ∃ r' α' st' OS', SInv T n N sc X E α0 H0 G Bd r' σ' α' H' st' OS' ∧ SatS T n N sc X E α0 H0 G Bd D (loopW (fun r st => evE (T.P.env n) c' (view r) st) (fun r st => evSs (T.P.env n) T.P.wf b' r st) m r' st'), fun σ' H' q => ⟨m, by omega, q⟩, ?_⟩
      refine hb n X E α0 H0 G Bd ri σi α1 H1 st1 OSi _ hfn I1 ?_
      rw [if_pos rfl] at h1
      cases hm : evSs (T.P.env n) T.P.wf b' ri st1 with
      | ok fl st3 =>
        rw [hm] at h1
        cases fl with
        | next r3 => exact fun σ' α' H' OS' I' => ⟨r3, α', st3, OS', I', h1⟩
        | cnt r3 => exact fun σ' α' H' OS' I' => ⟨r3, α', st3, OS', I', h1⟩
        | brk r3 => exact h1
        | ret v => exact h1
      | exc c ds st3 => rw [hm] at h1; exact h1
      | no => rw [hm] at h1; exact h1.elim
end
end PD
/-! DSt3: stores in place -/
namespace PD
open PySem PySem.Spec PyProof.Rows L2
section
variable {T : Tab} {N : List Str} {sc : Scope} {n : Nat} {X : Cx} {E : XK} {α0 α α1 : List Addr} {H0 H H1 H2 : Hp} {G : Addr → Prop} {Bd Bd' : List Addr → Hp → Own1 → Prop} {r : SRho} {σ : L2.St} {st st1 : Store} {OS : Own1} {De : Ends}
/-- objects of the name i are written; what of them and of those aside is still its own: os' -/
theorem SInv.write (I : SInv T n N sc X E α0 H0 G Bd r σ α H st OS) {m i : Nat} (hm : N.length ≤ m) (hi : i < N.length) {o o' : Own} {d d' : D} {v : V} {os' wr : List Addr} (hr : r[i]? = some (some (o, d))) (hv : σ[i]? = some (some v)) (hw : ∀ b, b ∉ wr → H2 b = H b) (hwr : ∀ b ∈ wr, b ∈ OS i ∧ b ∉ α ∧ (∃ u, H2 b = some u) ∧ ∀ u, H b = some u → ¬ Fix u)
    (hos : ∀ a ∈ os', a ∈ OS i ∨ a ∈ OS m) (nd : os'.Nodup) (rd : Rep X.K T.CT α (fun a => G a ∧ (∀ j, j ≠ i → j ≠ m → a ∉ OS j) ∧ a ∉ os') H2 d' o' v os') :
    SInv T n N sc X E α0 H0 G Bd (put i (o', d') r) σ α H2 st (OSp i os' (OSp m [] OS)) := by
  have im : i ≠ m := by omega
  have at_i : OSp i os' (OSp m [] OS) i = os' := OSp_at
  have at_m : OSp i os' (OSp m [] OS) m = [] := by rw [OSp_ne (Ne.symm im), OSp_at]
  have at_o : ∀ j, j ≠ i → j ≠ m → OSp i os' (OSp m [] OS) j = OS j := fun j h1 h2 => by rw [OSp_ne h1, OSp_ne h2]
  have from_ : ∀ j a, a ∈ OSp i os' (OSp m [] OS) j → (j = i ∧ a ∈ os') ∨ (j ≠ i ∧ j ≠ m ∧ a ∈ OS j) := fun j a ha => by
    by_cases q : j = i
    · subst q
      rw [at_i] at ha
      exact .inl ⟨rfl, ha⟩
    · by_cases q2 : j = m
      · subst q2
        rw [at_m] at ha
        cases ha
      · rw [at_o j q q2] at ha
        exact .inr ⟨q, q2, ha⟩
  have gi : ∀ a, Gx G OS [] a → Gx G (OSp i os' (OSp m [] OS)) [] a := fun a h => ⟨h.1, fun j _ z => by
    rcases from_ j a z with ⟨_, w⟩ | ⟨_, _, w⟩
    · exact (hos a w).elim (h.2 i (by simp)) (h.2 m (by simp))
    · exact h.2 j (by simp) w⟩
  have kg : ∀ {P : Addr → Prop}, (∀ a, P a → a ∉ wr) → KG P α H α H2 := fun {P} hP => ⟨fun a u na h p => by
    rw [hw a (p.elim (hP a) fun f z => (hwr a z).2.2.2 u h f)]
    exact h, ⟨[], by simp, by simp⟩, fun a u h => by
    by_cases z : a ∈ wr
    · exact (hwr a z).2.2.1
    · exact ⟨u, by rw [hw a z]; exact h⟩⟩
  have gw : ∀ a, Gx G OS [] a → a ∉ wr := fun a g z => g.2 i (by simp) (hwr a z).1
  have trH : ∀ a, (∃ u, H a = some u) → ∃ u, H2 a = some u := fun a ⟨u, hu⟩ => (kg (P := fun _ => False) (fun _ z => z.elim)).tr a u hu
  refine ⟨I.ok, I.tk, I.slf, I.gf0, ⟨fun a u na h => ?_, I.ext.al, fun a ha u h => ?_⟩, ⟨I.ws.len, I.ws.nd, fun k a ha => ?_⟩, I.len, by unfold PD.put; rw [List.length_set]; exact I.lenR, fun j o1 d1 h => ?_, fun j a ha => ?_, fun j a ha => ?_, fun j => ?_, fun j k hjk a ha z => ?_, I.clo, I.clo _ _ _ _ _ _ I.bd ⟨kg gw, fun a g _ => gi a g⟩⟩
  · rw [hw a (fun z => by rw [I.fr i a (hwr a z).1] at h; cases h)]
    exact I.ext.kp a u na h
  · rw [hw a (fun z => by rw [I.fr i a (hwr a z).1] at h; cases h)]
    exact I.ext.cell a ha u h
  · obtain ⟨xs, h1, h2⟩ := I.ws.at_ k a ha
    exact ⟨xs, h1, by rw [hw a (fun z => (hwr a z).2.1 (List.mem_of_getElem? ha))]; exact h2⟩
  · unfold PD.put at h
    by_cases z : j = i
    · subst z
      rw [List.getElem?_set_self (by rw [I.lenR]; exact hi)] at h
      cases h
      refine ⟨v, hv, ?_⟩
      rw [at_i]
      refine Rep.ext (Ext.refl _ _) (fun a g _ => ⟨g.1, fun k _ w => ?_⟩) _ rd
      rcases from_ k a w with ⟨_, w⟩ | ⟨q1, q2, w⟩
      · exact g.2.2 w
      · exact g.2.1 k q1 q2 w
    · rw [List.getElem?_set_ne (Ne.symm z)] at h
      obtain ⟨w, h1, h2⟩ := I.rep j o1 d1 h
      have hj := I.lt h
      refine ⟨w, h1, ?_⟩
      rw [at_o j z (by omega)]
      refine Rep.kg (P := fun a => a ∉ wr) (kg fun a z => z) (fun a g _ => ⟨gi a g, gw a g⟩) _ (fun a ha y => I.dj j i z a ha (hwr a y).1) h2
  · rcases from_ j a ha with ⟨_, w⟩ | ⟨_, _, w⟩
    · exact (hos a w).elim (I.fr i a) (I.fr m a)
    · exact I.fr j a w
  · rcases from_ j a ha with ⟨_, w⟩ | ⟨_, _, w⟩
    · exact trH a ((hos a w).elim (I.tr i a) (I.tr m a))
    · exact trH a (I.tr j a w)
  · by_cases q : j = i
    · subst q; rw [at_i]; exact nd
    · by_cases q2 : j = m
      · subst q2; rw [at_m]; exact List.nodup_nil
      · rw [at_o j q q2]; exact I.nd j
  · rcases from_ j a ha with ⟨q1, w1⟩ | ⟨q1, q2, w1⟩
    · rcases from_ k a z with ⟨y1, _⟩ | ⟨y1, y2, y3⟩
      · exact hjk (q1.trans y1.symm)
      · exact (hos a w1).elim (fun w => I.dj i k (Ne.symm y1) a w y3) (fun w => I.dj m k (Ne.symm y2) a w y3)
    · rcases from_ k a z with ⟨y1, y2⟩ | ⟨y1, y2, y3⟩
      · exact (hos a y2).elim (fun w => I.dj j i q1 a w1 w) (fun w => I.dj j m q2 a w1 w)
      · exact I.dj j k hjk a w1 y3
/-- the value of a name that stands behind an expression which left it its own -/
theorem fz_at {o2 : Own} {S : List Nat} {i : Nat} {x : VD} (hr : r[i]? = some (some x)) (hc : ¬ (o2 ≠ .all ∧ i ∈ S)) : (fz o2 S r)[i]? = some (some x) := by
  unfold fz
  by_cases c : o2 = .all
  · rw [if_pos c]; exact hr
  · rw [if_neg c, frz_at, if_neg fun z => hc ⟨c, z⟩]; exact hr
theorem fzO_at {o2 : Own} {S : List Nat} {i m : Nat} {os : List Addr} (im : i ≠ m) (hc : ¬ (o2 ≠ .all ∧ i ∈ S)) : OSp m os (fzO o2 S OS) i = OS i := by
  rw [OSp_ne im]
  unfold fzO
  by_cases c : o2 = .all
  · rw [if_pos c]
  · rw [if_neg c]
    unfold OSf
    rw [if_neg fun z => hc ⟨c, z⟩]
theorem lenR_of (I : SInv T n N sc X E α0 H0 G Bd r σ α H st OS) : True := trivial
/-- x.append(e) -/
theorem impl_app {x : Str} {i : Nat} {e : Expr} {e' : Ex} {p apos cpos pos : Pos} (hi : N[i]? = some x) (hv : Vis sc x) (h1 : (x == ("__debug__" : Str)) = false) (h2 : (x == ("__classdict__" : Str)) = false) (hns : noStar e = true) (hline : (apos.endLine == cpos.line) = true) (he : ImplE T N sc e e') :
    ImplS T N sc (.Expr (.Call (.Attribute (.Name x p) "append" apos) [e] [] cpos) pos) (.app i e') := by
  intro n X E α0 H0 G Bd r σ α H st OS D hfn I h
  unfold evS at h
  have lt : i < N.length := (List.getElem?_eq_some_iff.mp hi).1
  have im : i ≠ N.length := by omega
  split at h
  · rename_i o xs hr
    split at h
    · rename_i hoz
      refine wS.of (ps_expr (pe_bm F.plainAttrs_list F.slot_list_append F.type_list_append mt_append (pe_var (by rw [I.ok.hN]; exact hi) (by rw [I.ok.hsc]; exact hv) h1 h2) (pa_cons pe_w pa_nil (star_of hns _ _)) rfl (few_of (by simp [hns]) (by simp)) hline (star_of hns _ _) rfl) rfl) ?_
      obtain ⟨v0, k1, k2⟩ := I.rep i o _ hr
      unfold Rep at k2
      obtain ⟨a, vs, os', rfl, na, rl, ha⟩ := k2
      rw [if_neg hoz.1] at ha
      refine ⟨.ref a, k1, .inl ⟨rfl, vs, .inl (.inl ha.1)⟩, ?_⟩
      refine wE.mono (he.at I h) fun y H1 ⟨v, st1, α1, os2, p1, h3⟩ => ?_
      split at h3
      · exact h3.elim
      rename_i hc
      obtain ⟨I1, rv⟩ := I.got (m := N.length) (Nat.le_refl _) p1
      have hr1 := fz_at (o2 := v.1) hr hc
      obtain ⟨v1, k3, k4⟩ := I1.rep i o _ hr1
      rw [k1] at k3
      cases k3
      have eO : OSp N.length os2 (fzO v.1 (exV e') OS) i = OS i := fzO_at im hc
      have k5 := k4
      unfold Rep at k5
      obtain ⟨a', ws, os3, e1, na1, rl1, ha1⟩ := k5
      cases e1
      rw [if_neg hoz.1] at ha1
      rw [eO] at ha1
      have lz := maxLen_lt hoz.2
      refine ⟨a, ws, y, rfl, rfl, ha1.1, by rw [rl1.len]; exact lz, ?_⟩
      have mi : a ∈ OSp N.length os2 (fzO v.1 (exV e') OS) i := by rw [eO, ha1.2]; exact List.mem_cons_self
      have ndi := I.nd i
      rw [ha1.2] at ndi
      have na3 : a ∉ os3 := (List.nodup_cons.mp ndi).1
      have hw : ∀ b, b ∉ [a] → upd H1 a (.lst (ws ++ [y])) b = H1 b := fun b hb => upd_ne (by simpa using hb)
      have hwr : ∀ b ∈ [a], b ∈ OSp N.length os2 (fzO v.1 (exV e') OS) i ∧ b ∉ α1 ∧ (∃ u, upd H1 a (.lst (ws ++ [y])) b = some u) ∧ ∀ u, H1 b = some u → ¬ Fix u := fun b hb => by
        rw [List.mem_singleton.mp hb]
        exact ⟨mi, na1, ⟨_, upd_same⟩, fun u hu => by rw [ha1.1] at hu; cases hu; exact id⟩
      have kg : KG (fun b => b ≠ a) α1 H1 α1 (upd H1 a (.lst (ws ++ [y]))) := KG.upd (by simp) fun u hu => by rw [ha1.1] at hu; cases hu; exact id
      have atm : OSp N.length os2 (fzO v.1 (exV e') OS) N.length = os2 := OSp_at
      have apart : ∀ b ∈ os3, b ∉ os2 := fun b hb z => by
        have := I1.dj i N.length im b (by rw [eO, ha1.2]; exact List.mem_cons_of_mem _ hb)
        rw [atm] at this
        exact this z
      have na2 : a ∉ os2 := fun z => by
        have := I1.dj i N.length im a mi
        rw [atm] at this
        exact this z
      -- what was shared is still, what was aside may be
      by_cases all : v.1 = .all ∧ o = .all
      · obtain ⟨av, ao⟩ := all
        have r1 := rv
        rw [av] at r1
        have r2 := rl1
        rw [ao] at r2
        rw [if_pos av] at h3
        refine h3 σ α1 _ _ (I1.write (Nat.le_refl _) lt (os' := a :: (os3 ++ os2)) (wr := [a]) hr1 k1 hw hwr (fun b hb => ?_) ?_ ?_)
        · rcases List.mem_cons.mp hb with z | z
          · rw [z]; exact .inl mi
          · rcases List.mem_append.mp z with z | z
            · exact .inl (by rw [eO, ha1.2]; exact List.mem_cons_of_mem _ z)
            · exact .inr (by rw [atm]; exact z)
        · exact List.nodup_cons.mpr ⟨fun z => (List.mem_append.mp z).elim na3 na2, List.nodup_append.mpr ⟨(List.nodup_cons.mp ndi).2, p1.nd, fun b hb c hc z => apart b hb (z ▸ hc)⟩⟩
        · rw [ao]
          unfold Rep
          refine ⟨a, ws ++ [y], os3 ++ os2, rfl, na1, ?_, by rw [if_neg (by decide)]; exact ⟨upd_same, rfl⟩⟩
          have q1 : RepL X.K T.CT α1 (fun _ => False) (upd H1 a (.lst (ws ++ [y]))) xs .all ws os3 := RepL.kg kg (fun b g _ => g.elim) _ (fun b hb z => na3 (z ▸ hb)) (RepL.all (G' := fun _ => False) _ r2)
          have q2 : Rep X.K T.CT α1 (fun _ => False) (upd H1 a (.lst (ws ++ [y]))) v.2 .all y os2 := Rep.kg kg (fun b g _ => g.elim) _ (fun b hb z => na2 (z ▸ hb)) (Rep.all (G' := fun _ => False) _ r1)
          exact RepL.ext (Ext.refl _ _) (fun b g _ => g.elim) _ (RepL.snoc q1 q2)
      · have eo : (if v.1 = .all then o else Own.top) = .top ∨ o = .no := by
          by_cases c : v.1 = .all
          · rw [if_pos c]
            cases o with
            | no => exact .inr rfl
            | top => exact .inl rfl
            | all => exact absurd ⟨c, rfl⟩ all
          · rw [if_neg c]; exact .inl rfl
        rcases eo with eo | eo
        · rw [eo] at h3
          refine h3 σ α1 _ _ (I1.write (Nat.le_refl _) lt (os' := [a]) (wr := [a]) hr1 k1 hw hwr (fun b hb => by rw [List.mem_singleton.mp hb]; exact .inl mi) (by simp) ?_)
          unfold Rep
          refine ⟨a, ws ++ [y], [], rfl, na1, ?_, by rw [if_neg (by decide)]; exact ⟨upd_same, rfl⟩⟩
          -- all items are shared from now on
          have sh : ∀ b, b ∈ os3 ∨ b ∈ os2 → G b ∧ (∀ j, j ≠ i → j ≠ N.length → b ∉ OSp N.length os2 (fzO v.1 (exV e') OS) j) ∧ b ∉ [a] := fun b hb => by
            rcases hb with z | z
            · have mb : b ∈ OSp N.length os2 (fzO v.1 (exV e') OS) i := by rw [eO, ha1.2]; exact List.mem_cons_of_mem _ z
              exact ⟨I1.gf0 b (I1.fr i b mb), fun j h1 _ => I1.dj i j (Ne.symm h1) b mb, fun w => na3 (List.mem_singleton.mp w ▸ z)⟩
            · have mb : b ∈ OSp N.length os2 (fzO v.1 (exV e') OS) N.length := by rw [atm]; exact z
              exact ⟨I1.gf0 b (I1.fr _ b mb), fun j _ h2 => I1.dj _ j (Ne.symm h2) b mb, fun w => na2 (List.mem_singleton.mp w ▸ z)⟩
          have gx : ∀ b, Gx G (OSp N.length os2 (fzO v.1 (exV e') OS)) [] b → (G b ∧ (∀ j, j ≠ i → j ≠ N.length → b ∉ OSp N.length os2 (fzO v.1 (exV e') OS) j) ∧ b ∉ [a]) ∧ b ≠ a := fun b g => by
            have nb : b ≠ a := fun z => g.2 i (by simp) (z ▸ mi)
            exact ⟨⟨g.1, fun j _ _ => g.2 j (by simp), by simpa using nb⟩, nb⟩
          have q1 := RepL.weak _ (RepL.kg (G' := fun b => G b ∧ (∀ j, j ≠ i → j ≠ N.length → b ∉ OSp N.length os2 (fzO v.1 (exV e') OS) j) ∧ b ∉ [a]) kg (fun b g _ => gx b g) _ (fun b hb z => na3 (z ▸ hb)) rl1) fun b hb => sh b (.inl hb)
          have q2 := Rep.weak _ (Rep.kg (G' := fun b => G b ∧ (∀ j, j ≠ i → j ≠ N.length → b ∉ OSp N.length os2 (fzO v.1 (exV e') OS) j) ∧ b ∉ [a]) kg (fun b g _ => gx b g) _ (fun b hb z => na2 (z ▸ hb)) rv) fun b hb => sh b (.inr hb)
          exact RepL.snoc q1 q2
        · exact absurd eo hoz.1
    · exact h.elim
  · exact h.elim
end
end PD
/-! DSt4: stores to the box; several names at once -/
namespace PD
open PySem PySem.Spec PyProof.Rows L2
section
variable {T : Tab} {N : List Str} {sc : Scope} {n : Nat} {X : Cx} {E : XK} {α0 α α1 : List Addr} {H0 H H1 H2 : Hp} {G : Addr → Prop} {Bd Bd' : List Addr → Hp → Own1 → Prop} {r : SRho} {σ : L2.St} {st st1 : Store} {OS : Own1} {De : Ends}
theorem swaps_sub (e : Expr) (o i : Expr) (p : Pos) (l : Nat) (env : PySem.Env) : swapsWithSole [.Subscript o i p] e l env = pure false := by
  show swapsWith e (some (.Subscript o i p)) l env = pure false
  unfold swapsWith
  cases e <;> rfl
theorem swap_sub (e : Expr) (o i : Expr) (p : Pos) (env : PySem.Env) : swappedStores [.Subscript o i p] e env = pure none := by
  unfold swappedStores
  cases e <;> rfl
theorem asg_sub {k : Expr} (hp : plainIx k = true) (o : Expr) (pos : Pos) (env : PySem.Env) (v : Value) : assign (.Subscript o k pos) env v = (do
      let ov ← holding [v] (eval o env)
      let iv ← holding [v, ov] (eval k env)
      standAt pos
      holding [v, ov, iv] (setItem ov iv v)
      release [v, ov, iv] []) := by
  cases k <;> first | rfl | cases hp
/-- box[k] = e -/
theorem impl_setH {x : Str} {i : Nat} {k e : Expr} {k' e' : Ex} {p p2 pos : Pos} (hi : N[i]? = some x) (hv : Vis sc x) (h1 : (x == ("__debug__" : Str)) = false) (h2 : (x == ("__classdict__" : Str)) = false) (hp : plainIx k = true) (hk : ImplE T N sc k k') (he : ImplE T N sc e e') :
    ImplS T N sc (.Assign [.Subscript (.Name x p) k p2] e pos) (.setH i k' e') := by
  intro n X E α0 H0 G Bd r σ α H st OS D hfn I h
  unfold evS at h
  split at h
  · rename_i o hn hr
    refine wS.of (ps_asg pe_w (pg_sub (pe_var (by rw [I.ok.hN]; exact hi) (by rw [I.ok.hsc]; exact hv) h1 h2) pe_w set_list (asg_sub hp _ _ _)) (swaps_sub _ _ _ _ _ _) (swap_sub _ _ _ _ _) rfl) ?_
    refine wE.mono (he.at I h) fun y H1 ⟨v, st1, α1, os1, p1, h3⟩ => ?_
    have I1 := I.keep p1.ext p1.ws
    obtain ⟨v0, k1, k2⟩ := I1.rep i o _ hr
    unfold Rep at k2
    obtain ⟨⟨a, ha, rfl⟩, _⟩ := k2
    refine ⟨.ref a, k1, ?_⟩
    refine wE.mono (hk.at I1 h3) fun z H2 ⟨w, st2, α2, os2, p2, h4⟩ => ?_
    split at h4
    · rename_i j c hj hc
      split at h4
      · rename_i xs hxs
        split at h4
        · rename_i m hm
          have I2 := I1.keep p2.ext p2.ws
          have ha2 : α2[hn]? = some a := p2.ext.ix ha
          obtain ⟨ys, e1, e2⟩ := p2.ws.at_ hn a ha2
          rw [hxs] at e1
          cases e1
          have ry := p1.rep
          rw [hc] at ry
          have rz := p2.rep
          rw [hj] at rz
          rw [rep_int rz, rep_int ry]
          refine ⟨a, _, j, m, rfl, rfl, e2, by rw [List.length_map]; exact place_ix hm, ?_⟩
          have es : (xs.map V.int).set m (kV (.inl c)) = (xs.set m c).map V.int := by rw [List.map_set]; rfl
          rw [es]
          have ma : a ∈ α2 := List.mem_of_getElem? ha2
          have ex : Ext α2 H2 α2 (upd H2 a (.lst ((xs.set m c).map V.int))) := ⟨fun b u nb hb => by rw [upd_ne (fun z => nb (by rw [z]; exact ma))]; exact hb, ⟨[], by simp, by simp⟩, fun b hb u hu => by
            by_cases q : b = a
            · exact ⟨_, by rw [q]; exact upd_same⟩
            · exact ⟨u, by rw [upd_ne q]; exact hu⟩⟩
          have lt : hn < st2.length := (List.getElem?_eq_some_iff.mp hxs).1
          have ws : WS α2 (st2.set hn (.nums (xs.set m c))) (upd H2 a (.lst ((xs.set m c).map V.int))) := ⟨by rw [List.length_set]; exact p2.ws.len, p2.ws.nd, fun q b hb => by
            by_cases z : q = hn
            · subst z
              rw [ha2] at hb
              cases hb
              exact ⟨_, List.getElem?_set_self lt, upd_same⟩
            · obtain ⟨zs, f1, f2⟩ := p2.ws.at_ q b hb
              have nb : b ≠ a := fun w => by
                subst w
                have l1 := (List.getElem?_eq_some_iff.mp hb)
                have l2 := (List.getElem?_eq_some_iff.mp ha2)
                obtain ⟨l1, m1⟩ := l1
                obtain ⟨l2, m2⟩ := l2
                exact z ((List.getElem_inj p2.ws.nd).mp (m1.trans m2.symm))
              exact ⟨zs, by rw [List.getElem?_set_ne (Ne.symm z)]; exact f1, by rw [upd_ne nb]; exact f2⟩⟩
          exact h4 σ α2 _ OS (I2.keep ex ws)
        · exact h4.elim
      · exact h4.elim
    · exact h4.elim
  · exact h.elim
/-! ### several names -/
theorem ImplL.at {es : List Expr} {es' : Exs} (he : ImplL T N sc es es') (I : SInv T n N sc X E α0 H0 G Bd r σ α H st OS) {f : Bool × List D → Store → R Fl} (h : SatS T n N sc X E α0 H0 G Bd De ((evEs (T.P.env n) es' (view r) st).bind f)) :
    wL X es σ H fun x H' => ∃ v st' α' os, PostL X.K T.CT α H (Gx G OS (exVs es')) st' v.1 v.2 x H' α' os ∧ SatS T n N sc X E α0 H0 G Bd De (f v st') := by
  rw [evEs_fr (T.P.env n) es' st (agr_hide (exVs es') (view r))] at h
  refine he n X _ σ H _ st α _ _ (I.sit (exVs es')) ?_
  cases hm : evEs (T.P.env n) es' (hide (exVs es') (view r)) st with
  | ok v st' =>
    rw [hm] at h
    exact fun x H' α' os p => ⟨v, st', α', os, p, h⟩
  | exc c ds st' =>
    rw [hm] at h
    exact fun H' α' cls dd e w x => h H' α' cls dd (I.ext.trans e) w (x.mono fun a g => g.1)
  | no => rw [hm] at h; exact h.elim
/-- new values to names, each with its objects -/
theorem putsT_ok {m : Nat} (hm : N.length ≤ m) : ∀ (is : List Nat) (ds : List D) (vs : List V) {r r' : SRho} {σ : L2.St} {OS : Own1} {os : List Addr}, SInv T n N sc X E α0 H0 G Bd r σ α H st OS → OS m = os → RepL X.K T.CT α (fun _ => False) H ds .all vs os → putsT .all is ds r = some r' → (∀ i ∈ is, i < N.length ∧ N[i]? ≠ some ("self" : Str)) →
    ∃ OS', SInv T n N sc X E α0 H0 G Bd r' (setsV is vs σ) α H st OS' ∧ is.length = vs.length
  | [], [], vs, r, r', σ, OS, os, I, _, rl, h, _ => by
    unfold putsT at h
    cases h
    unfold RepL at rl
    rw [rl.1]
    exact ⟨OS, I, rfl⟩
  | i :: is, d :: ds, vs, r, r', σ, OS, os, I, hO, rl, h, hi => by
    unfold putsT at h
    unfold RepL at rl
    obtain ⟨v, vs', os1, os2, rfl, rfl, h3, h4⟩ := rl
    have e : (if flat d then Own.all else Own.all) = .all := by split <;> rfl
    rw [e] at h
    have im : i ≠ m := by have := (hi i List.mem_cons_self).1; omega
    have I1 := I.take hm (hi i List.mem_cons_self).1 (hi i List.mem_cons_self).2 (os1 := os1) (os2 := os2) hO (Rep.all d h3)
    obtain ⟨OS', I2, l⟩ := putsT_ok hm is ds vs' I1 (os := os2) (by rw [OSp_ne (Ne.symm im), OSp_at]) h4 h fun j hj => hi j (List.mem_cons_of_mem _ hj)
    exact ⟨OS', I2, by rw [List.length_cons, List.length_cons, l]⟩
  | [], _ :: _, _, _, _, _, _, _, _, _, _, h, _ => by unfold putsT at h; cases h
  | _ :: _, [], _, _, _, _, _, _, _, _, _, h, _ => by unfold putsT at h; cases h
theorem par_fin {is : List Nat} {es' : Exs} {xs : List V} {v : Bool × List D} {os : List Addr} (I : SInv T n N sc X E α0 H0 G Bd r σ α H st OS) (hi : ∀ i ∈ is, i < N.length ∧ N[i]? ≠ some ("self" : Str)) (p : PostL X.K T.CT α H (Gx G OS (exVs es')) st1 v.1 v.2 xs H1 α1 os)
    (h : SatS T n N sc X E α0 H0 G Bd De (match (if v.1 then putsT .all is v.2 r else puts is v.2 (frz (exVs es') r)) with | some r' => .ok (.next r') st1 | none => .no)) : is.length = xs.length ∧ De.nx (setsV is xs σ) H1 := by
  cases hb : v.1 with
  | true =>
    rw [hb] at h
    rw [if_pos rfl] at h
    split at h
    · rename_i r' hp
      have I1 := I.adopt (m := N.length) (Nat.le_refl _) p.ext p.ws p.fr p.tr p.nd
      have rl := p.rep
      rw [hb] at rl
      obtain ⟨OS', I2, l⟩ := putsT_ok (Nat.le_refl _) is v.2 xs I1 OSp_at (RepL.all _ rl) hp hi
      exact ⟨l, h _ α1 H1 OS' I2⟩
    · exact h.elim
  | false =>
    rw [hb] at h
    rw [if_neg (by decide)] at h
    split at h
    · rename_i r' hp
      have I1 := ((I.keep p.ext p.ws).freeze (exVs es')).adopt (m := N.length) (Nat.le_refl _) (Ext.refl _ _) p.ws (os := []) (fun _ z => (by cases z)) (fun _ z => (by cases z)) List.nodup_nil
      have rl := p.shared (I.gfx (exVs es'))
      obtain ⟨OS', I2, l⟩ := puts_ok (Nat.le_refl _) is v.2 xs I1 OSp_at (RepL.ext (Ext.refl _ _) (fun a g _ => ⟨g.1, fun j _ z => by
        by_cases q : j = N.length
        · subst q; rw [OSp_at] at z; cases z
        · rw [OSp_ne q] at z
          obtain ⟨z1, z2⟩ := OSf_sub z
          exact g.2 j z1 z2⟩) _ rl) hp hi
      exact ⟨l, h _ α1 H1 OS' I2⟩
    · exact h.elim
theorem impl_par2 {x y : Str} {i j : Nat} {a b : Expr} {es' : Exs} {px py pt pos : Pos} {kt k2 : Nat} {pt2 : Pos} (hi : N[i]? = some x) (hj : N[j]? = some y) (hij : i ≠ j) (nx : x ≠ ("self" : Str)) (ny : y ≠ ("self" : Str)) (hx : sc.names.lookup x = some .local) (hy : sc.names.lookup y = some .local) (he : ImplL T N sc [a, b] es')
    (hw : ∀ env : PySem.Env, env.scope = sc → swappedStores [.Tuple [.Name x px, .Name y py] kt pt] (.Tuple [a, b] k2 pt2) env = pure (some [x, y])) : ImplS T N sc (.Assign [.Tuple [.Name x px, .Name y py] kt pt] (.Tuple [a, b] k2 pt2) pos) (.par [i, j] es') := by
  intro n X E α0 H0 G Bd r σ α H st OS D hfn I h
  unfold evS at h
  refine wS.of (ps_par I.ok.calm (by rw [I.ok.hN]; exact I.ok.nd) (by rw [I.ok.hN]; exact hi) (by rw [I.ok.hN]; exact hj) hij (by rw [I.ok.hsc]; exact hx) (by rw [I.ok.hsc]; exact hy) pa_w (hw X.env I.ok.hsc) rfl) ?_
  refine wL.mono (he.at I h) fun vs H1 ⟨v, st1, α1, os1, p1, h1⟩ => ?_
  have li : ∀ k ∈ [i, j], k < N.length ∧ N[k]? ≠ some ("self" : Str) := fun k hk => by
    rcases List.mem_cons.mp hk with z | z
    · rw [z]; exact ⟨(List.getElem?_eq_some_iff.mp hi).1, by rw [hi]; exact fun z => nx (Option.some.inj z)⟩
    · rw [List.mem_singleton.mp z]; exact ⟨(List.getElem?_eq_some_iff.mp hj).1, by rw [hj]; exact fun z => ny (Option.some.inj z)⟩
  obtain ⟨l, q⟩ := par_fin I li p1 h1
  match vs, l with
  | [u, w], _ => exact ⟨u, w, rfl, q⟩
theorem impl_par3 {x y z : Str} {i j l : Nat} {a b c : Expr} {es' : Exs} {px py pz pt pos : Pos} {kt k2 : Nat} {pt2 : Pos} (hi : N[i]? = some x) (hj : N[j]? = some y) (hl : N[l]? = some z) (hij : i ≠ j) (hil : i ≠ l) (hjl : j ≠ l) (nx : x ≠ ("self" : Str)) (ny : y ≠ ("self" : Str)) (nz : z ≠ ("self" : Str)) (hx : sc.names.lookup x = some .local) (hy : sc.names.lookup y = some .local) (hz : sc.names.lookup z = some .local) (he : ImplL T N sc [a, b, c] es')
    (hw : ∀ env : PySem.Env, env.scope = sc → swappedStores [.Tuple [.Name x px, .Name y py, .Name z pz] kt pt] (.Tuple [a, b, c] k2 pt2) env = pure (some [x, y, z])) : ImplS T N sc (.Assign [.Tuple [.Name x px, .Name y py, .Name z pz] kt pt] (.Tuple [a, b, c] k2 pt2) pos) (.par [i, j, l] es') := by
  intro n X E α0 H0 G Bd r σ α H st OS D hfn I h
  unfold evS at h
  refine wS.of (ps_par3 I.ok.calm (by rw [I.ok.hN]; exact I.ok.nd) (by rw [I.ok.hN]; exact hi) (by rw [I.ok.hN]; exact hj) (by rw [I.ok.hN]; exact hl) hij hil hjl (by rw [I.ok.hsc]; exact hx) (by rw [I.ok.hsc]; exact hy) (by rw [I.ok.hsc]; exact hz) pa_w (hw X.env I.ok.hsc) rfl) ?_
  refine wL.mono (he.at I h) fun vs H1 ⟨v, st1, α1, os1, p1, h1⟩ => ?_
  have li : ∀ k ∈ [i, j, l], k < N.length ∧ N[k]? ≠ some ("self" : Str) := fun k hk => by
    rcases List.mem_cons.mp hk with w | w
    · rw [w]; exact ⟨(List.getElem?_eq_some_iff.mp hi).1, by rw [hi]; exact fun z => nx (Option.some.inj z)⟩
    · rcases List.mem_cons.mp w with w | w
      · rw [w]; exact ⟨(List.getElem?_eq_some_iff.mp hj).1, by rw [hj]; exact fun z => ny (Option.some.inj z)⟩
      · rw [List.mem_singleton.mp w]; exact ⟨(List.getElem?_eq_some_iff.mp hl).1, by rw [hl]; exact fun z => nz (Option.some.inj z)⟩
  obtain ⟨ll, q⟩ := par_fin I li p1 h1
  match vs, ll with
  | [u, w, t], _ => exact ⟨u, w, t, rfl, q⟩
end
end PD
/-! DSt5: stores to one's own lists and fields -/
namespace PD
open PySem PySem.Spec PyProof.Rows L2
section
variable {K : PySem.W.Frag} {CT : CTab} {α : List Addr} {G : Addr → Prop} {H : Hp}
theorem view_frz (S : List Nat) (r : SRho) : view (frz S r) = view r := by
  apply List.ext_getElem?
  intro j
  unfold view
  rw [List.getElem?_map, List.getElem?_map, frz_at]
  split
  · cases r[j]? with
    | none => rfl
    | some x => cases x <;> rfl
  · rfl
theorem view_fz (o : Own) (S : List Nat) (r : SRho) : view (fz o S r) = view r := by
  unfold fz
  split
  · rfl
  · exact view_frz S r
theorem RepL.set {d : D} {v : V} {o : Own} {os2 : List Addr} (h' : Rep K CT α G H d o v os2) : ∀ (ds : List D) (m : Nat) {vs : List V} {os : List Addr}, RepL K CT α G H ds o vs os →
    ∃ os', RepL K CT α G H (ds.set m d) o (vs.set m v) os' ∧ (∀ a ∈ os', a ∈ os ∨ a ∈ os2) ∧ (os.Nodup → os2.Nodup → (∀ a ∈ os, a ∉ os2) → os'.Nodup)
  | [], m, vs, os, h => by
    have h0 := h
    unfold RepL at h
    obtain ⟨rfl, rfl⟩ := h
    exact ⟨[], by simpa using h0, fun a ha => .inl ha, fun _ _ _ => List.nodup_nil⟩
  | e :: ds, 0, vs, os, h => by
    unfold RepL at h
    obtain ⟨w, r, os1, os3, rfl, rfl, h3, h4⟩ := h
    refine ⟨os2 ++ os3, ?_, fun a ha => ?_, fun n1 n2 dj => ?_⟩
    · rw [List.set_cons_zero, List.set_cons_zero]
      unfold RepL
      exact ⟨v, r, os2, os3, rfl, rfl, h', h4⟩
    · rcases List.mem_append.mp ha with z | z
      · exact .inr z
      · exact .inl (List.mem_append_right _ z)
    · exact List.nodup_append.mpr ⟨n2, (List.nodup_append.mp n1).2.1, fun a ha b hb z => dj b (List.mem_append_right _ hb) (z ▸ ha)⟩
  | e :: ds, m + 1, vs, os, h => by
    unfold RepL at h
    obtain ⟨w, r, os1, os3, rfl, rfl, h3, h4⟩ := h
    obtain ⟨os', q1, q2, q3⟩ := RepL.set h' ds m h4
    refine ⟨os1 ++ os', ?_, fun a ha => ?_, fun n1 n2 dj => ?_⟩
    · rw [List.set_cons_succ, List.set_cons_succ]
      unfold RepL
      exact ⟨w, _, os1, os', rfl, rfl, h3, q1⟩
    · rcases List.mem_append.mp ha with z | z
      · exact .inl (List.mem_append_left _ z)
      · exact (q2 a z).imp (List.mem_append_right _) id
    · obtain ⟨m1, m2, m3⟩ := List.nodup_append.mp n1
      refine List.nodup_append.mpr ⟨m1, q3 m2 n2 (fun a ha => dj a (List.mem_append_right _ ha)), fun a ha b hb z => ?_⟩
      subst z
      rcases q2 a hb with y | y
      · exact m3 a ha a y rfl
      · exact dj a (List.mem_append_left _ ha) y
end
section
variable {T : Tab} {N : List Str} {sc : Scope} {n : Nat} {X : Cx} {E : XK} {α0 α α1 : List Addr} {H0 H H1 H2 : Hp} {G : Addr → Prop} {Bd Bd' : List Addr → Hp → Own1 → Prop} {r : SRho} {σ : L2.St} {st st1 : Store} {OS : Own1} {De : Ends}
/-- x[k] = e -/
theorem impl_setI {x : Str} {i : Nat} {k e : Expr} {k' e' : Ex} {p p2 pos : Pos} (hi : N[i]? = some x) (hv : Vis sc x) (h1 : (x == ("__debug__" : Str)) = false) (h2 : (x == ("__classdict__" : Str)) = false) (hp : plainIx k = true) (hk : ImplE T N sc k k') (he : ImplE T N sc e e') :
    ImplS T N sc (.Assign [.Subscript (.Name x p) k p2] e pos) (.setI i k' e') := by
  intro n X E α0 H0 G Bd r σ α H st OS D hfn I h
  unfold evS at h
  have lt : i < N.length := (List.getElem?_eq_some_iff.mp hi).1
  have im : i ≠ N.length := by omega
  split at h
  · rename_i o xs hr
    split at h
    · rename_i hoz
      refine wS.of (ps_asg pe_w (pg_sub (pe_var (by rw [I.ok.hN]; exact hi) (by rw [I.ok.hsc]; exact hv) h1 h2) pe_w set_list (asg_sub hp _ _ _)) (swaps_sub _ _ _ _ _ _) (swap_sub _ _ _ _ _) rfl) ?_
      refine wE.mono (he.at I h) fun y H1 ⟨v, st1, α1, os2, p1, h3⟩ => ?_
      split at h3
      · exact h3.elim
      rename_i hc
      obtain ⟨I0, rv0⟩ := I.got (m := N.length) (Nat.le_refl _) p1
      have hr1 := fz_at (o2 := v.1) hr hc
      obtain ⟨v0, k1, k2⟩ := I0.rep i o _ hr1
      have k2' := k2
      unfold Rep at k2'
      obtain ⟨a, _, _, rfl, _⟩ := k2'
      refine ⟨.ref a, k1, ?_⟩
      rw [← view_fz v.1 (exV e') r] at h3
      refine wE.mono (hk.at I0 h3) fun z H2 ⟨w, st2, α2, osk, p2, h4⟩ => ?_
      split at h4
      · rename_i j hj
        split at h4
        · rename_i m hm
          have I1 := I0.keep p2.ext p2.ws
          have rz := p2.rep
          rw [hj] at rz
          have rv : Rep X.K T.CT α2 (Gx G (OSp N.length os2 (fzO v.1 (exV e') OS)) []) H2 v.2 v.1 y os2 := Rep.ext p2.ext (fun a g _ => g) _ rv0
          obtain ⟨v1, k3, k4⟩ := I1.rep i o _ hr1
          rw [k1] at k3
          cases k3
          have eO : OSp N.length os2 (fzO v.1 (exV e') OS) i = OS i := fzO_at im hc
          have k5 := k4
          unfold Rep at k5
          obtain ⟨a', ws, os3, e1, na1, rl1, ha1⟩ := k5
          cases e1
          rw [if_neg hoz] at ha1
          rw [eO] at ha1
          refine ⟨a, ws, j, m, rfl, rep_int rz, ha1.1, by rw [rl1.len]; exact place_ix hm, ?_⟩
          have mi : a ∈ OSp N.length os2 (fzO v.1 (exV e') OS) i := by rw [eO, ha1.2]; exact List.mem_cons_self
          have ndi := I.nd i
          rw [ha1.2] at ndi
          have na3 : a ∉ os3 := (List.nodup_cons.mp ndi).1
          have hw : ∀ b, b ∉ [a] → upd H2 a (.lst (ws.set m y)) b = H2 b := fun b hb => upd_ne (by simpa using hb)
          have hwr : ∀ b ∈ [a], b ∈ OSp N.length os2 (fzO v.1 (exV e') OS) i ∧ b ∉ α2 ∧ (∃ u, upd H2 a (.lst (ws.set m y)) b = some u) ∧ ∀ u, H2 b = some u → ¬ Fix u := fun b hb => by
            rw [List.mem_singleton.mp hb]
            exact ⟨mi, na1, ⟨_, upd_same⟩, fun u hu => by rw [ha1.1] at hu; cases hu; exact id⟩
          have kg : KG (fun b => b ≠ a) α2 H2 α2 (upd H2 a (.lst (ws.set m y))) := KG.upd (by simp) fun u hu => by rw [ha1.1] at hu; cases hu; exact id
          have atm : OSp N.length os2 (fzO v.1 (exV e') OS) N.length = os2 := OSp_at
          have apart : ∀ b ∈ os3, b ∉ os2 := fun b hb z => by
            have := I1.dj i N.length im b (by rw [eO, ha1.2]; exact List.mem_cons_of_mem _ hb)
            rw [atm] at this
            exact this z
          have na2 : a ∉ os2 := fun z => by
            have := I1.dj i N.length im a mi
            rw [atm] at this
            exact this z
          by_cases all : v.1 = .all ∧ o = .all
          · obtain ⟨av, ao⟩ := all
            have r1 := rv
            rw [av] at r1
            have r2 := rl1
            rw [ao] at r2
            rw [if_pos av] at h4
            have q1 : RepL X.K T.CT α2 (fun _ => False) (upd H2 a (.lst (ws.set m y))) xs .all ws os3 := RepL.kg kg (fun b g _ => g.elim) _ (fun b hb z => na3 (z ▸ hb)) (RepL.all (G' := fun _ => False) _ r2)
            have q2 : Rep X.K T.CT α2 (fun _ => False) (upd H2 a (.lst (ws.set m y))) v.2 .all y os2 := Rep.kg kg (fun b g _ => g.elim) _ (fun b hb z => na2 (z ▸ hb)) (Rep.all (G' := fun _ => False) _ r1)
            obtain ⟨os', q3, q4, q5⟩ := RepL.set q2 xs m q1
            have nd3 := q5 (List.nodup_cons.mp ndi).2 p1.nd apart
            refine h4 σ α2 _ _ (I1.write (Nat.le_refl _) lt (os' := a :: os') (wr := [a]) hr1 k1 hw hwr (fun b hb => ?_) ?_ ?_)
            · rcases List.mem_cons.mp hb with z | z
              · rw [z]; exact .inl mi
              · rcases q4 b z with z | z
                · exact .inl (by rw [eO, ha1.2]; exact List.mem_cons_of_mem _ z)
                · exact .inr (by rw [atm]; exact z)
            · exact List.nodup_cons.mpr ⟨fun z => (q4 a z).elim na3 na2, nd3⟩
            · rw [ao]
              unfold Rep
              refine ⟨a, ws.set m y, os', rfl, na1, ?_, by rw [if_neg (by decide)]; exact ⟨upd_same, rfl⟩⟩
              exact RepL.ext (Ext.refl _ _) (fun b g _ => g.elim) _ q3
          · have eo : (if v.1 = .all then o else Own.top) = .top ∨ o = .no := by
              by_cases c : v.1 = .all
              · rw [if_pos c]
                cases o with
                | no => exact .inr rfl
                | top => exact .inl rfl
                | all => exact absurd ⟨c, rfl⟩ all
              · rw [if_neg c]; exact .inl rfl
            rcases eo with eo | eo
            · rw [eo] at h4
              refine h4 σ α2 _ _ (I1.write (Nat.le_refl _) lt (os' := [a]) (wr := [a]) hr1 k1 hw hwr (fun b hb => by rw [List.mem_singleton.mp hb]; exact .inl mi) (by simp) ?_)
              unfold Rep
              refine ⟨a, ws.set m y, [], rfl, na1, ?_, by rw [if_neg (by decide)]; exact ⟨upd_same, rfl⟩⟩
              have sh : ∀ b, b ∈ os3 ∨ b ∈ os2 → G b ∧ (∀ j, j ≠ i → j ≠ N.length → b ∉ OSp N.length os2 (fzO v.1 (exV e') OS) j) ∧ b ∉ [a] := fun b hb => by
                rcases hb with z | z
                · have mb : b ∈ OSp N.length os2 (fzO v.1 (exV e') OS) i := by rw [eO, ha1.2]; exact List.mem_cons_of_mem _ z
                  exact ⟨I1.gf0 b (I1.fr i b mb), fun j h1 _ => I1.dj i j (Ne.symm h1) b mb, fun w => na3 (List.mem_singleton.mp w ▸ z)⟩
                · have mb : b ∈ OSp N.length os2 (fzO v.1 (exV e') OS) N.length := by rw [atm]; exact z
                  exact ⟨I1.gf0 b (I1.fr _ b mb), fun j _ h2 => I1.dj _ j (Ne.symm h2) b mb, fun w => na2 (List.mem_singleton.mp w ▸ z)⟩
              have gx : ∀ b, Gx G (OSp N.length os2 (fzO v.1 (exV e') OS)) [] b → (G b ∧ (∀ j, j ≠ i → j ≠ N.length → b ∉ OSp N.length os2 (fzO v.1 (exV e') OS) j) ∧ b ∉ [a]) ∧ b ≠ a := fun b g => by
                have nb : b ≠ a := fun z => g.2 i (by simp) (z ▸ mi)
                exact ⟨⟨g.1, fun j _ _ => g.2 j (by simp), by simpa using nb⟩, nb⟩
              have q1 := RepL.weak _ (RepL.kg (G' := fun b => G b ∧ (∀ j, j ≠ i → j ≠ N.length → b ∉ OSp N.length os2 (fzO v.1 (exV e') OS) j) ∧ b ∉ [a]) kg (fun b g _ => gx b g) _ (fun b hb z => na3 (z ▸ hb)) rl1) fun b hb => sh b (.inl hb)
              have q2 := Rep.weak _ (Rep.kg (G' := fun b => G b ∧ (∀ j, j ≠ i → j ≠ N.length → b ∉ OSp N.length os2 (fzO v.1 (exV e') OS) j) ∧ b ∉ [a]) kg (fun b g _ => gx b g) _ (fun b hb z => na2 (z ▸ hb)) rv) fun b hb => sh b (.inr hb)
              obtain ⟨os', q3, q4, _⟩ := RepL.set q2 xs m q1
              have e0 : os' = [] := by
                cases os' with
                | nil => rfl
                | cons b bs => exact ((q4 b List.mem_cons_self).elim (fun z => by cases z) (fun z => by cases z))
              rw [e0] at q3
              exact q3
            · exact absurd eo hoz
        · exact h4.elim
      · exact h4.elim
    · exact h.elim
  · exact h.elim
end
end PD
/-! DSt6: self.f = e, the fields in order -/
namespace PD
open PySem PySem.Spec PyProof.Rows L2
section
variable {T : Tab} {N : List Str} {sc : Scope} {n : Nat} {X : Cx} {E : XK} {α0 α α1 : List Addr} {H0 H H1 H2 : Hp} {G : Addr → Prop} {Bd Bd' : List Addr → Hp → Own1 → Prop} {r : SRho} {σ : L2.St} {st st1 : Store} {OS : Own1} {De : Ends}
theorem swaps_att (e : Expr) (o : Expr) (f : Str) (p : Pos) (l : Nat) (env : PySem.Env) : swapsWith e (some (.Attribute o f p)) l env = pure false := by
  unfold swapsWith
  cases e <;> rfl
theorem impl_fld {x f : Str} {c k : Nat} {e : Expr} {e' : Ex} {p p2 pos : Pos} (hi : N[0]? = some x) (hv : Vis sc x) (h1 : (x == ("__debug__" : Str)) = false) (h2 : (x == ("__classdict__" : Str)) = false) (hf : (T.CT c).names[k]? = some f) (hkc : T.P.kc c = true) (he : ImplE T N sc e e') :
    ImplS T N sc (.Assign [.Attribute (.Name x p) f p2] e pos) (.fld c k e') := by
  intro n X E α0 H0 G Bd r σ α H st OS D hfn I h
  unfold evS at h
  have lt : 0 < N.length := (List.getElem?_eq_some_iff.mp hi).1
  have im : 0 ≠ N.length := by omega
  refine wS.of (SlX.ps_sl (pe_var (by rw [I.ok.hN]; exact hi) (by rw [I.ok.hsc]; exact hv) h1 h2) pe_w (swaps_att _ _ _ _ _ _)) ?_
  refine wE.mono (he.at I h) fun y H1 ⟨v, st1, α1, os2, p1, h3⟩ => ?_
  split at h3
  · exact h3.elim
  rename_i hc
  split at h3
  · rename_i o c' fs hr
    split at h3
    · rename_i hoz
      obtain ⟨hoz, hk, hcc⟩ := hoz
      subst hcc
      obtain ⟨I1, rv⟩ := I.got (m := N.length) (Nat.le_refl _) p1
      have hr1 := fz_at (o2 := v.1) hr hc
      obtain ⟨v1, k1, k4⟩ := I1.rep 0 o _ hr1
      have eO : OSp N.length os2 (fzO v.1 (exV e') OS) 0 = OS 0 := fzO_at im hc
      have k5 := k4
      unfold Rep at k5
      obtain ⟨a, dx, us, os3, rfl, na1, nd1, hne, _, _, hins, rl1, ha1⟩ := k5
      rw [if_neg hoz] at ha1
      rw [eO] at ha1
      obtain ⟨hm, hsc, hsi, hsl, hsn⟩ := I.ok.F.cls _ hkc
      obtain ⟨pp, hs1⟩ := hsn k f hf
      unfold InsAt at hins
      rw [if_pos hsl] at hins
      obtain ⟨vs, slt, hdx, hat⟩ := hins
      refine ⟨.ref a, k1, a, _, dx, pp, vs, _, rfl, slt, hsc, hs1, ?_⟩
      have ma : a ∈ OSp N.length os2 (fzO v.1 (exV e') OS) 0 := by rw [eO, ha1]; exact List.mem_cons_self
      have md : dx ∈ OSp N.length os2 (fzO v.1 (exV e') OS) 0 := by rw [eO, ha1]; exact List.mem_cons_of_mem _ List.mem_cons_self
      have ndi := I.nd 0
      rw [ha1] at ndi
      have na3 : a ∉ os3 := fun z => (List.nodup_cons.mp ndi).1 (List.mem_cons_of_mem _ z)
      have nd3 : dx ∉ os3 := (List.nodup_cons.mp (List.nodup_cons.mp ndi).2).1
      have nn3 : os3.Nodup := (List.nodup_cons.mp (List.nodup_cons.mp ndi).2).2
      have atm : OSp N.length os2 (fzO v.1 (exV e') OS) N.length = os2 := OSp_at
      have apart : ∀ b ∈ OSp N.length os2 (fzO v.1 (exV e') OS) 0, b ∉ os2 := fun b hb z => by
        have := I1.dj 0 N.length im b hb
        rw [atm] at this
        exact this z
      have m3 : ∀ b ∈ os3, b ∈ OSp N.length os2 (fzO v.1 (exV e') OS) 0 := fun b hb => by rw [eO, ha1]; exact List.mem_cons_of_mem _ (List.mem_cons_of_mem _ hb)
      have na2 : a ∉ os2 := apart a ma
      have nd2 : dx ∉ os2 := apart dx md
      generalize hW : SlX.putS ((T.CT c').place k) y vs = W
      have hw : ∀ b, b ∉ [a, dx] → SlX.slH H1 a (T.CT c').C dx W b = H1 b := fun b hb => SlX.slH_ne (fun z => hb (by simp [z])) (fun z => hb (by simp [z]))
      have fa : ∀ u, H1 a = some u → ¬ Fix u := fun u hu => by
        rcases slt with ⟨z, _⟩ | ⟨z, _⟩
        · rw [z] at hu; cases hu; exact id
        · rw [z] at hu; cases hu; exact id
      have fd : ∀ u, H1 dx = some u → ¬ Fix u := fun u hu => by
        rcases hdx with z | z
        · rw [z] at hu; cases hu; exact id
        · rw [z] at hu; cases hu; exact id
      have ta : ∃ u, SlX.slH H1 a (T.CT c').C dx W a = some u := ⟨_, upd_same⟩
      have td : ∃ u, SlX.slH H1 a (T.CT c').C dx W dx = some u := ⟨_, by unfold SlX.slH; rw [upd_ne (Ne.symm hne)]; exact upd_same⟩
      have hwr : ∀ b ∈ [a, dx], b ∈ OSp N.length os2 (fzO v.1 (exV e') OS) 0 ∧ b ∉ α1 ∧ (∃ u, SlX.slH H1 a (T.CT c').C dx W b = some u) ∧ ∀ u, H1 b = some u → ¬ Fix u := fun b hb => by
        rcases List.mem_cons.mp hb with z | z
        · rw [z]; exact ⟨ma, na1, ta, fa⟩
        · rw [List.mem_singleton.mp z]; exact ⟨md, nd1, td, fd⟩
      have kg : KG (fun b => b ≠ a ∧ b ≠ dx) α1 H1 α1 (SlX.slH H1 a (T.CT c').C dx W) := by
        unfold SlX.slH
        exact (KG.upd (by simp) fd).trans (KG.upd (by simp) fun u hu => by rw [upd_ne hne] at hu; exact fa u hu)
      have ins : InsAt T.CT (SlX.slH H1 a (T.CT c').C dx W) c' a dx (us ++ [y]) := by
        unfold InsAt
        rw [if_pos hsl]
        refine ⟨W, SlX.slH_slt (Ne.symm hne), .inr (by unfold SlX.slH; rw [upd_ne (Ne.symm hne)]; exact upd_same), fun q u hq => ?_⟩
        rw [← hW]
        by_cases z : q < us.length
        · rw [List.getElem?_append_left z] at hq
          have nk : (T.CT c').place q ≠ (T.CT c').place k := fun w => by
            have := I.ok.F.plc _ hkc _ _ w
            have := rl1.len
            omega
          exact (SlX.putS_ne nk).mpr (hat q u hq)
        · rw [List.getElem?_append_right (by omega)] at hq
          have z0 : q - us.length = 0 := by
            have := (List.getElem?_eq_some_iff.mp hq).1
            simp at this
            omega
          rw [z0] at hq
          cases hq
          have : q = k := by
            have := rl1.len
            omega
          rw [this]
          exact SlX.putS_get _ _ _
      by_cases all : v.1 = .all ∧ o = .all
      · obtain ⟨av, ao⟩ := all
        have r1 := rv
        rw [av] at r1
        have r2 := rl1
        rw [ao] at r2
        rw [if_pos av] at h3
        refine h3 σ α1 _ _ (I1.write (Nat.le_refl _) lt (os' := a :: dx :: (os3 ++ os2)) (wr := [a, dx]) hr1 k1 hw hwr (fun b hb => ?_) ?_ ?_)
        · rcases List.mem_cons.mp hb with z | z
          · rw [z]; exact .inl ma
          · rcases List.mem_cons.mp z with z | z
            · rw [z]; exact .inl md
            · rcases List.mem_append.mp z with z | z
              · exact .inl (m3 b z)
              · exact .inr (by rw [atm]; exact z)
        · refine List.nodup_cons.mpr ⟨fun z => ?_, List.nodup_cons.mpr ⟨fun z => (List.mem_append.mp z).elim nd3 nd2, List.nodup_append.mpr ⟨nn3, p1.nd, fun b hb c hc z => apart b (m3 b hb) (z ▸ hc)⟩⟩⟩
          rcases List.mem_cons.mp z with z | z
          · exact hne z
          · exact (List.mem_append.mp z).elim na3 na2
        · rw [ao]
          unfold Rep
          refine ⟨a, dx, us ++ [y], os3 ++ os2, rfl, na1, nd1, hne, ta, td, ins, ?_, by rw [if_neg (by decide)]⟩
          have q1 : RepL X.K T.CT α1 (fun _ => False) (SlX.slH H1 a (T.CT c').C dx W) fs .all us os3 := RepL.kg kg (fun b g _ => g.elim) _ (fun b hb => ⟨fun z => na3 (z ▸ hb), fun z => nd3 (z ▸ hb)⟩) (RepL.all (G' := fun _ => False) _ r2)
          have q2 : Rep X.K T.CT α1 (fun _ => False) (SlX.slH H1 a (T.CT c').C dx W) v.2 .all y os2 := Rep.kg kg (fun b g _ => g.elim) _ (fun b hb => ⟨fun z => na2 (z ▸ hb), fun z => nd2 (z ▸ hb)⟩) (Rep.all (G' := fun _ => False) _ r1)
          exact RepL.ext (Ext.refl _ _) (fun b g _ => g.elim) _ (RepL.snoc q1 q2)
      · have eo : (if v.1 = .all then o else Own.top) = .top ∨ o = .no := by
          by_cases c : v.1 = .all
          · rw [if_pos c]
            cases o with
            | no => exact .inr rfl
            | top => exact .inl rfl
            | all => exact absurd ⟨c, rfl⟩ all
          · rw [if_neg c]; exact .inl rfl
        rcases eo with eo | eo
        · rw [eo] at h3
          refine h3 σ α1 _ _ (I1.write (Nat.le_refl _) lt (os' := [a, dx]) (wr := [a, dx]) hr1 k1 hw hwr (fun b hb => .inl (hwr b hb).1) (by simp [hne]) ?_)
          unfold Rep
          refine ⟨a, dx, us ++ [y], [], rfl, na1, nd1, hne, ta, td, ins, ?_, by rw [if_neg (by decide)]⟩
          have sh : ∀ b, b ∈ os3 ∨ b ∈ os2 → G b ∧ (∀ j, j ≠ 0 → j ≠ N.length → b ∉ OSp N.length os2 (fzO v.1 (exV e') OS) j) ∧ b ∉ [a, dx] := fun b hb => by
            rcases hb with z | z
            · have mb := m3 b z
              refine ⟨I1.gf0 b (I1.fr 0 b mb), fun j h1 _ => I1.dj 0 j (Ne.symm h1) b mb, fun w => ?_⟩
              rcases List.mem_cons.mp w with w | w
              · exact na3 (w ▸ z)
              · exact nd3 (List.mem_singleton.mp w ▸ z)
            · have mb : b ∈ OSp N.length os2 (fzO v.1 (exV e') OS) N.length := by rw [atm]; exact z
              refine ⟨I1.gf0 b (I1.fr _ b mb), fun j _ h2 => I1.dj _ j (Ne.symm h2) b mb, fun w => ?_⟩
              rcases List.mem_cons.mp w with w | w
              · exact na2 (w ▸ z)
              · exact nd2 (List.mem_singleton.mp w ▸ z)
          have gx : ∀ b, Gx G (OSp N.length os2 (fzO v.1 (exV e') OS)) [] b → (G b ∧ (∀ j, j ≠ 0 → j ≠ N.length → b ∉ OSp N.length os2 (fzO v.1 (exV e') OS) j) ∧ b ∉ [a, dx]) ∧ (b ≠ a ∧ b ≠ dx) := fun b g => by
            have nb : b ≠ a := fun z => g.2 0 (by simp) (z ▸ ma)
            have nb2 : b ≠ dx := fun z => g.2 0 (by simp) (z ▸ md)
            exact ⟨⟨g.1, fun j _ _ => g.2 j (by simp), by simp [nb, nb2]⟩, nb, nb2⟩
          have q1 := RepL.weak _ (RepL.kg (G' := fun b => G b ∧ (∀ j, j ≠ 0 → j ≠ N.length → b ∉ OSp N.length os2 (fzO v.1 (exV e') OS) j) ∧ b ∉ [a, dx]) kg (fun b g _ => gx b g) _ (fun b hb => ⟨fun z => na3 (z ▸ hb), fun z => nd3 (z ▸ hb)⟩) rl1) fun b hb => sh b (.inl hb)
          have q2 := Rep.weak _ (Rep.kg (G' := fun b => G b ∧ (∀ j, j ≠ 0 → j ≠ N.length → b ∉ OSp N.length os2 (fzO v.1 (exV e') OS) j) ∧ b ∉ [a, dx]) kg (fun b g _ => gx b g) _ (fun b hb => ⟨fun z => na2 (z ▸ hb), fun z => nd2 (z ▸ hb)⟩) rv) fun b hb => sh b (.inr hb)
          exact RepL.snoc q1 q2
        · exact absurd eo hoz
    · exact h3.elim
  · exact h3.elim
end
end PD
/-! DSt7: name = [..] on one line -/
namespace PD
open PySem PySem.Spec PyProof.Rows L2
section
variable {T : Tab} {N : List Str} {sc : Scope} {n : Nat} {X : Cx} {E : XK} {α0 α α1 : List Addr} {H0 H H1 H2 : Hp} {G : Addr → Prop} {Bd Bd' : List Addr → Hp → Own1 → Prop} {r : SRho} {σ : L2.St} {st st1 : Store} {OS : Own1} {De : Ends}
theorem impl_asgLc {x : Str} {i : Nat} {p spos : Pos} {elt tg iter : Expr} {ifs : List Expr} {scope : Scope} {own : List (Str × Nat)} {pos : Pos} {elt' cond' : Ex} {tg' : Tg} {it' : It} (hb : blkC N sc scope own = true) (ho : own.map (·.2) = slotsOf tg') (ht : okTg (locC sc scope) N tg tg' = true) (hsl : (slotsOf tg').all (fun i => decide (i < N.length)) = true) (hns : notSet iter = true)
    (hi : ImplI T N sc tg iter it') (hc : ImplTs T N (relS scope sc) ifs cond') (he : ImplE T N (relS scope sc) elt elt') (hx : N[i]? = some x) (hne : x ≠ ("self" : Str)) (hl : sc.names.lookup x = some .local) (hk : sc.kind = .function) (hline : (p.line == pos.line) = true) (ha : (scope.names.any fun (n, k) => n == x && (k == .local || k == .cell)) = false) :
    ImplS T N sc (.Assign [.Name x p] (.ListComp elt [⟨tg, iter, ifs, 0⟩] scope pos) spos) (.asg i (.lc elt' tg' it' cond')) := by
  intro n X E α0 H0 G Bd r σ α H st OS D hfn I h
  unfold evS at h
  have lt : i < N.length := (List.getElem?_eq_some_iff.mp hx).1
  have ifsB : ∀ (s : Shared) (H0 : Hp) (C : Addr) (cl : List (Str × Addr)) (fp : List Addr), PTs (X.blk s H0 scope (compEnvC scope cl C X.env) fp) ifs (bTs X scope ifs) := fun s H0 C cl fp => by
    match ifs, hc with
    | [], _ => exact pts_nil
    | [c], _ => exact pts_one ⟨fun pins s' σ' H' Q' I q => q s H0 C cl fp pins s' I⟩
  refine wS.of (ps_setLc (wi := wI X tg iter) (g := gOf X.K tg') (tt := bTs X scope ifs) (te := bE X scope elt) I.ok.calm (by rw [I.ok.hN]; exact I.ok.nd) (by rw [I.ok.hN]; exact hx) (by rw [I.ok.hsc]; exact hl) (sw_true (by rw [I.ok.hsc]; exact hk) (by rw [I.ok.hsc]; exact hl) hline ha) pi_w (blkOk_by (by rw [I.ok.hN, I.ok.hsc]; exact hb)) (fun s H0 C cl fp => pg_of (X := X.blk s H0 scope (compEnvC scope cl C X.env) fp) I.ok.hN I.ok.nd I.ok.calm (locC_by I.ok s H0 scope cl C fp) ht) ifsB
    (fun s H0 C cl fp => ⟨fun pins s' σ' H' Q' I q => q s H0 C cl fp pins s' I⟩) (notSet_by hns X.env)) ?_
  rw [ho]
  show tLc _ _ _ _ _ σ H (fun x H1 => gName i x σ H1 D.nx)
  rw [evE_fr (T.P.env n) (.lc elt' tg' it' cond') st (agr_hide (exV (.lc elt' tg' it' cond')) (view r))] at h
  refine lc_te hsl hi hc he n X _ σ H _ st α _ _ (I.sit (exV (.lc elt' tg' it' cond'))) ?_
  cases hm : evE (T.P.env n) (.lc elt' tg' it' cond') (hide (exV (.lc elt' tg' it' cond')) (view r)) st with
  | ok v st' =>
    rw [hm] at h
    intro y H1 α1 os1 p1
    obtain ⟨I1, rv⟩ := I.got (m := N.length) (Nat.le_refl _) p1
    exact h _ α1 H1 _ (I1.take (Nat.le_refl _) lt (by rw [hx]; exact fun z => hne (Option.some.inj z)) (os1 := os1) (os2 := []) (by rw [OSp_at, List.append_nil]) rv)
  | exc c ds st' =>
    rw [hm] at h
    exact fun H' α' cls dd e w x => h H' α' cls dd (I.ext.trans e) w (x.mono fun a g => g.1)
  | no => rw [hm] at h; exact h.elim
end
end PD
/-! DLc2: list comprehensions with two walks -/
namespace PD
open PySem PySem.Spec PyProof.Rows L2
/-- alike but at the places S -/
structure Off (S : List Nat) (r r' : Rho) : Prop where
  len : r.length = r'.length
  at_ : ∀ i, i ∉ S → r[i]? = r'[i]?
theorem Off.set {S : List Nat} {r r' : Rho} (h : Off S r r') (i : Nat) (d : Option D) : Off S (r.set i d) (r'.set i d) := by
  refine ⟨by rw [List.length_set, List.length_set]; exact h.len, fun j hj => ?_⟩
  by_cases z : i = j
  · subst z
    rw [List.getElem?_set_self', List.getElem?_set_self', h.at_ i hj]
  · rw [List.getElem?_set_ne z, List.getElem?_set_ne z]
    exact h.at_ j hj
theorem Off.sets {S : List Nat} : ∀ (is : List Nat) (ds : List D) {r r' : Rho}, Off S r r' → Off S (setsR is ds r) (setsR is ds r')
  | i :: is, d :: ds, r, r', h => Off.sets is ds (h.set i (some d))
  | [], _, _, _, h => h
  | _ :: _, [], _, _, h => h
theorem Off.bind {S : List Nat} {r r' r1 : Rho} (h : Off S r r') (tg : Tg) (d : D) (hb : bindTg tg d r = some r1) : ∃ r2, bindTg tg d r' = some r2 ∧ Off S r1 r2 := by
  cases tg with
  | nm i => cases hb; exact ⟨_, rfl, h.sets [i] [d]⟩
  | tp is =>
    cases d with
    | tup ds =>
      by_cases z : is.length = ds.length
      · have : r1 = setsR is ds r := by simp [bindTg, z] at hb; exact hb.symm
        subst this
        exact ⟨setsR is ds r', by simp [bindTg, z], h.sets is ds⟩
      · simp [bindTg, z] at hb
    | _ => cases hb
theorem Off.agr {S L : List Nat} {r r' : Rho} (h : Off S r r') (hd : L.all (fun i => !S.contains i) = true) : Agr L r r' := ⟨h.len, fun i hi => h.at_ i fun z => by
  have := List.all_eq_true.mp hd i hi
  simp [z] at this⟩
def blank (S : List Nat) (r : Rho) : Rho := r.mapIdx fun i d => if i ∈ S then none else d
theorem blank_off (S : List Nat) (r : Rho) : Off S r (blank S r) := by
  refine ⟨by simp [blank], fun i hi => ?_⟩
  unfold blank
  rw [List.getElem?_mapIdx]
  cases r[i]? with
  | none => rfl
  | some d => simp [hi]
theorem blank_at {S : List Nat} {r : Rho} {i : Nat} {d : D} (h : (blank S r)[i]? = some (some d)) : i ∉ S ∧ r[i]? = some (some d) := by
  unfold blank at h
  rw [List.getElem?_mapIdx] at h
  cases q : r[i]? with
  | none => rw [q] at h; cases h
  | some x =>
    rw [q] at h
    by_cases z : i ∈ S
    · simp [z] at h
    · simp [z] at h
      exact ⟨z, by rw [h]⟩
theorem lcG_none {tg : Tg} {r : Rho} {i : Rho → Store → R (List D)} {x : D} {st : Store} (h : bindTg tg x r = none) : lcG tg r i x st = .no := by
  unfold lcG
  rw [h]
theorem lcG_some {tg : Tg} {r r' : Rho} {i : Rho → Store → R (List D)} {x : D} {st : Store} (h : bindTg tg x r = some r') : lcG tg r i x st = (i r' st).noX.bind fun ys st => .ok (r', ys) st := by
  unfold lcG
  rw [h]
def bI (X : Cx) (scope : Scope) (tg iter : Expr) : TI := fun σ H R => ∀ (s : Shared) (H0 : Hp) (C : Addr) (cl : List (Str × Addr)) (fp : List Addr), wI (X.blk s H0 scope (compEnvC scope cl C X.env) fp) tg iter σ H R
theorem SatI.bindX {K : PySem.W.Frag} {CT : CTab} {W : WX} {σ σ2 : L2.St} {α α1 : List Addr} {H H1 : Hp} {G G1 : Addr → Prop} {Q : VK} {m : R (List D)} {f : List D → Store → R VD} (h : SatE K CT W σ α H G Q (m.noX.bind f)) :
    SatI K CT (fun _ _ _ _ => False) σ2 α1 H1 G1 (fun J H' => ∃ xs st' α', Ext α1 H1 α' H' ∧ WS α' st' H' ∧ WalkD K CT G1 α' H' J xs ∧ SatE K CT W σ α H G Q (f xs st')) m := by
  cases m with
  | ok v st' => exact fun J H' α' e w k => ⟨v, st', α', e, w, k, h⟩
  | exc c ds st' => exact (show False from h).elim
  | no => exact h
section
variable {T : Tab} {N : List Str} {sc : Scope}
variable {K : PySem.W.Frag} {CT : CTab}
theorem notSet_all {e : Expr} (h : notSet e = true) : ∀ (env : PySem.Env) x, foldedSetIterable e env x = pure x := fun env => notSet_by h env
theorem EnvOff.blank {α : List Addr} {G : Addr → Prop} {H : Hp} {r : Rho} {σ : L2.St} {is S V : List Nat} (e : EnvV K CT α G H r σ) (hV : ∀ i ∈ V, i ∈ is ∨ i ∈ S) : EnvOff K CT α G H is (blank S r) (wipe σ V) := fun i d hi hd => by
  obtain ⟨hS, hd⟩ := blank_at hd
  obtain ⟨v, h1, h2⟩ := e i d hd
  exact ⟨v, by rw [wipe_get, if_neg fun z => (hV i z).elim hi hS]; exact h1, h2⟩
theorem lc2_te {elt tg iter tg1 iter1 : Expr} {ifs1 : List Expr} {scope : Scope} {elt' cond' : Ex} {tg' tg1' : Tg} {it' it1' : It} (hsl : (slotsOf tg').all (fun i => decide (i < N.length)) = true) (hsl1 : (slotsOf tg1').all (fun i => decide (i < N.length)) = true) (hdj : (itV it1').all (fun i => !(slotsOf tg1').contains i) = true)
    (hi : ImplI T N sc tg iter it') (hi1 : ImplI T N (relS scope sc) tg1 iter1 it1') (hc : ImplTs T N (relS scope sc) ifs1 cond') (he : ImplE T N (relS scope sc) elt elt') (n : Nat) (X : Cx) (W : WX) (σ : L2.St) (H : Hp) (r : Rho) (st : Store) (α : List Addr) (G : Addr → Prop) (Q : VK) (S : Sit T n N sc X W r σ α H G st) (h : SatE X.K T.CT W σ α H G Q (evE (T.P.env n) (.lc2 elt' tg' it' tg1' it1' cond') r st)) :
    tLc2 (wI X tg iter) (gOf X.K tg') tYes (bI X scope tg1 iter1) (gOf X.K tg1') (bTs X scope ifs1) (bE X scope elt) (slotsOf tg' ++ slotsOf tg1') (slotsOf tg1') σ H Q := by
  unfold evE at h
  refine wI.mono (hi n X W σ H r st α G _ S h.bindI) fun J H1 ⟨xs, st1, α1, e1, w1, wk, h1⟩ => ?_
  intro D0 hD
  obtain ⟨Gd, Y, wlk, keepG, yld⟩ := wk
  have S1 := S.keep e1 w1
  generalize hf : lcG tg' r (evIt (T.P.env n) it1') = f at h1
  generalize hg : (fun r' => lcF tg1' r' (evE (T.P.env n) cond') (evE (T.P.env n) elt')) = g at h1
  let Pv : Nat → Hp → Prop := fun i Hi => ∃ acc o sti αi vs os, Gath X.K T.CT α1 H1 G D0 acc o sti αi Hi vs os ∧ SatE X.K T.CT W σ α H G Q (gather2 f g (xs.drop i) acc o sti) ∧ vs.length = acc.length
  refine ⟨fun i m Hi => m = xs.length - i ∧ i ≤ xs.length ∧ Pv i Hi, ⟨xs.length, by simp, Nat.zero_le _, [], .all, st1, α1, [], [], ⟨Ext.new hD, w1.new hD, upd_same, w1.out hD, repL_nil, .inl rfl, fun _ z => (by cases z), List.nodup_nil, by simp⟩, by rw [List.drop_zero]; exact h1, rfl⟩, ?_⟩
  rintro i m Hi ⟨rfl, hin, acc, o, sti, αi, vs, os, gt, hs, hva⟩
  have hgd := keepG αi Hi (KG.of gt.ext)
  by_cases hlt : i < xs.length
  rotate_left
  · have en : i = xs.length := by omega
    subst en
    refine .inl ⟨wlk.stops Hi hgd, ?_⟩
    rw [List.drop_length] at hs
    have hs : ∀ x H' α' os', Post X.K T.CT α H G sti o (.lst acc.reverse) x H' α' os' → Q x H' := hs
    refine hs (.ref D0) Hi αi (D0 :: os) ⟨e1.trans gt.ext, gt.ws, ?_, fun a ha => ?_, List.nodup_cons.mpr ⟨gt.no, gt.nd⟩⟩
    · show Rep X.K T.CT αi (Gm G (D0 :: os)) Hi (.lst acc.reverse) o (.ref D0) (D0 :: os)
      unfold Rep
      refine ⟨D0, vs, os, rfl, gt.out, gt.rep, ?_⟩
      rw [if_neg (by rcases gt.own with z | ⟨z, _⟩ <;> rw [z] <;> decide)]
      exact ⟨gt.at_, rfl⟩
    · rcases List.mem_cons.mp ha with z | z
      · rw [z]; exact e1.fresh hD
      · exact e1.fresh (gt.fr a z)
  refine .inr ⟨wlk.goes i Hi hlt hgd, Pv (i + 1), fun H' p' => ⟨xs.length - (i + 1), by omega, rfl, hlt, p'⟩, fun x Hx y => ?_⟩
  have y := wlk.yields i Hi x Hx hlt hgd y
  have fresh : ∀ a, G a → (∃ u, H1 a = some u) → Gm G (D0 :: os) a := fun a ga ⟨u, hu⟩ => ⟨ga, fun z => by
    rcases List.mem_cons.mp z with z | z
    · rw [z, hD] at hu; cases hu
    · rw [gt.fr a z] at hu; cases hu⟩
  obtain ⟨d, hd, ex, rd, hx⟩ := yld i x αi Hi Hx (Gm G (D0 :: os)) hlt (KG.of gt.ext) gt.ws.trk fresh y
  have wx : WS αi sti Hx := by
    rcases hx with rfl | ⟨T0, ts, hT, rfl⟩
    · exact gt.ws
    · exact gt.ws.new hT
  have gx := gt.keep ex wx
  rw [List.drop_eq_getElem_cons hlt] at hs
  have ed : xs[i] = d := by
    rw [List.getElem?_eq_getElem hlt] at hd
    exact Option.some.inj hd
  rw [ed] at hs
  unfold gather2 at hs
  rw [← hf] at hs
  cases hbd : bindTg tg' d r with
  | none => rw [lcG_none hbd] at hs; exact hs.elim
  | some r' =>
    rw [lcG_some hbd] at hs
    rw [hf] at hs
    rw [R.bind_assoc] at hs
    obtain ⟨r0', hbd0, off⟩ := (blank_off (slotsOf tg1') r).bind tg' d hbd
    have hsl' : ∀ j ∈ slotsOf tg', j < (wipe σ (slotsOf tg' ++ slotsOf tg1')).length := fun j hj => by
      rw [wipe_length, S.len]
      exact of_decide_eq_true (List.all_eq_true.mp hsl j hj)
    refine tg_ok (r := blank (slotsOf tg1') r) rd hbd0 hsl' (EnvOff.blank (S1.env.ext (gt.ext.trans ex) fresh) fun i hi => List.mem_append.mp hi) fun σ2 env2 len2 off2 => ⟨?_, ?_⟩
    · have z1 := wipe_cong (vs := slotsOf tg' ++ slotsOf tg1') len2 fun j hj => off2 j fun z => hj (List.mem_append_left _ z)
      rw [z1]
      exact wipe_cong (wipe_length _ _) fun j hj => by rw [wipe_get, if_neg hj]
    unfold tYes
    try dsimp only
    rw [if_pos rfl]
    have gfx : GF (Gm G (D0 :: os)) Hx := (S1.gf.ext (gt.ext.trans ex)).minus gx.tr
    have SB : ∀ (s : Shared) (H0 : Hp) (C : Addr) (cl : List (Str × Addr)) (fp : List Addr), Sit T n N (relS scope sc) (X.blk s H0 scope (compEnvC scope cl C X.env) fp) (fun _ _ _ _ => False) r0' σ2 αi Hx (Gm G (D0 :: os)) sti := fun s H0 C cl fp =>
      ⟨S.ok.blk s H0 scope cl C fp, takes0, env2, wx, gfx, by rw [len2, wipe_length]; exact S.len⟩
    rw [evIt_fr (T.P.env n) it1' sti (off.agr hdj)] at hs
    intro s0 H00 C0 cl0 fp0
    refine wI.mono (hi1 n _ _ σ2 Hx r0' sti αi (Gm G (D0 :: os)) _ (SB s0 H00 C0 cl0 fp0) (SatI.bindX hs)) fun J1 H4 ⟨ys, st4, α4, e4, w4, wk4, h4⟩ => ?_
    clear hs
    have h4 : SatE X.K T.CT W σ α H G Q (gatherI (g r') ys acc o st4 fun acc o st => gather2 f g (xs.drop (i + 1)) acc o st) := h4
    obtain ⟨Gd1, Y1, wlk1, keepG1, yld1⟩ := wk4
    have g4 := gx.keep e4 w4
    let Pv1 : Nat → Hp → Prop := fun j Hj => ∃ acc o stj αj vs osj, Gath X.K T.CT α1 H1 G D0 acc o stj αj Hj vs osj ∧ KG (Gm G (D0 :: os)) α4 H4 αj Hj ∧ (∀ a ∈ osj, a ∈ os ∨ H4 a = none) ∧ vs.length = acc.length ∧ SatE X.K T.CT W σ α H G Q (gatherI (g r') (ys.drop j) acc o stj fun acc o st => gather2 f g (xs.drop (i + 1)) acc o st)
    refine ⟨fun j m Hj => m = ys.length - j ∧ j ≤ ys.length ∧ Pv1 j Hj, ⟨ys.length, by simp, Nat.zero_le _, acc, o, st4, α4, vs, os, g4, KG.of (Ext.refl _ _), fun a ha => .inl ha, hva, by rw [List.drop_zero]; exact h4⟩, ?_⟩
    clear h4
    rintro j m Hj ⟨rfl, hjn, acc, o, stj, αj, vs, osj, gj, kj, fj, hva, hs⟩
    have hgd1 := keepG1 αj Hj kj
    by_cases hlt1 : j < ys.length
    rotate_left
    · have en : j = ys.length := by omega
      subst en
      refine .inl ⟨wlk1.stops Hj hgd1, ?_⟩
      rw [List.drop_length] at hs
      exact ⟨acc, o, stj, αj, vs, osj, gj, hs, hva⟩
    refine .inr ⟨wlk1.goes j Hj hlt1 hgd1, Pv1 (j + 1), fun H' p' => ⟨ys.length - (j + 1), by omega, rfl, hlt1, p'⟩, fun x1 Hx1 y1 => ?_⟩
    have y1 := wlk1.yields j Hj x1 Hx1 hlt1 hgd1 y1
    have fresh1 : ∀ a, Gm G (D0 :: os) a → (∃ u, H4 a = some u) → Gm G (D0 :: osj) a := fun a ga ⟨u, hu⟩ => ⟨ga.1, fun z => by
      rcases List.mem_cons.mp z with z | z
      · exact ga.2 (z ▸ List.mem_cons_self)
      · rcases fj a z with z | z
        · exact ga.2 (List.mem_cons_of_mem _ z)
        · rw [z] at hu; cases hu⟩
    obtain ⟨d1, hd1, ex1, rd1, hx1⟩ := yld1 j x1 αj Hj Hx1 (Gm G (D0 :: osj)) hlt1 kj gj.ws.trk fresh1 y1
    have wx1 : WS αj stj Hx1 := by
      rcases hx1 with rfl | ⟨T0, ts, hT, rfl⟩
      · exact gj.ws
      · exact gj.ws.new hT
    have gx1 := gj.keep ex1 wx1
    rw [List.drop_eq_getElem_cons hlt1] at hs
    have ed1 : ys[j] = d1 := by
      rw [List.getElem?_eq_getElem hlt1] at hd1
      exact Option.some.inj hd1
    rw [ed1] at hs
    unfold gatherI at hs
    by_cases hmx : maxLen ≤ acc.length
    · rw [if_pos hmx] at hs; exact hs.elim
    rw [if_neg hmx] at hs
    rw [← hg] at hs
    cases hbd1 : bindTg tg1' d1 r' with
    | none =>
      simp only [lcF_none hbd1] at hs
      exact hs.elim
    | some r'' =>
      simp only [lcF_some hbd1] at hs
      simp only [R.bind_assoc] at hs
      have hsl1' : ∀ k ∈ slotsOf tg1', k < (wipe σ2 (slotsOf tg1')).length := fun k hk => by
        rw [wipe_length, len2, wipe_length, S.len]
        exact of_decide_eq_true (List.all_eq_true.mp hsl1 k hk)
      have kx : KG (Gm G (D0 :: os)) αi Hx αj Hx1 := ((KG.of e4).trans kj).trans (KG.of ex1)
      have envI : EnvOff X.K T.CT αj (Gm G (D0 :: osj)) Hx1 (slotsOf tg1') r' (wipe σ2 (slotsOf tg1')) := fun k d2 hk hd2 => by
        rw [off.at_ k hk] at hd2
        obtain ⟨v, q1, q2⟩ := env2 k d2 hd2
        refine ⟨v, by rw [wipe_get, if_neg hk]; exact q1, ?_⟩
        refine Rep.kg kx (fun a ga t => ⟨?_, ga⟩) _ (fun _ z => (by cases z)) q2
        obtain ⟨u, hu⟩ := t
        exact fresh1 a ga (e4.tr hu)
      refine tg_ok rd1 hbd1 hsl1' envI fun σ3 env3 len3 off3 => ⟨?_, ?_⟩
      · have z1 := wipe_cong len3 off3
        rw [z1]
        exact wipe_cong (wipe_length _ _) fun j hj => by rw [wipe_get, if_neg hj]
      have gfx1 : GF (Gm G (D0 :: osj)) Hx1 := (S1.gf.ext (gj.ext.trans ex1)).minus gx1.tr
      have SB1 : ∀ (s : Shared) (H0 : Hp) (C : Addr) (cl : List (Str × Addr)) (fp : List Addr), Sit T n N (relS scope sc) (X.blk s H0 scope (compEnvC scope cl C X.env) fp) (fun _ _ _ _ => False) r'' σ3 αj Hx1 (Gm G (D0 :: osj)) stj := fun s H0 C cl fp =>
        ⟨S.ok.blk s H0 scope cl C fp, takes0, env3, wx1, gfx1, by rw [len3, wipe_length, len2, wipe_length]; exact S.len⟩
      -- behind the test
      let rest : D → Own → Store → R VD := fun d' o' st' => gatherI (lcF tg1' r' (evE (T.P.env n) cond') (evE (T.P.env n) elt')) (ys.drop (j + 1)) (d' :: acc) (if o = .all ∧ o' = .all then .all else .top) st' fun acc o st => gather2 f (fun r' => lcF tg1' r' (evE (T.P.env n) cond') (evE (T.P.env n) elt')) (xs.drop (i + 1)) acc o st
      let rest0 : Store → R VD := fun st' => gatherI (lcF tg1' r' (evE (T.P.env n) cond') (evE (T.P.env n) elt')) (ys.drop (j + 1)) acc o st' fun acc o st => gather2 f (fun r' => lcF tg1' r' (evE (T.P.env n) cond') (evE (T.P.env n) elt')) (xs.drop (i + 1)) acc o st
      have body : ∀ (st3 : Store) (α3 : List Addr) (H3 : Hp), Ext αj Hx1 α3 H3 → WS α3 st3 H3 → ∀ b : Bool, SatE X.K T.CT W σ α H G Q (if b = true then ((evE (T.P.env n) elt' r'' st3).noX.bind fun v st => rest v.2 v.1 st) else rest0 st3) →
          (if b = true then bE X scope elt σ3 H3 fun y H7 => ∃ acc', H7 D0 = some (.lst acc') ∧ acc'.length < sizeLine ∧ Pv1 (j + 1) (upd H7 D0 (.lst (acc' ++ [y]))) else Pv1 (j + 1) H3) := by
        intro st3 α3 H3 e3 w3 b hb
        have g3 := gx1.keep e3 w3
        have k3 : KG (Gm G (D0 :: os)) α4 H4 α3 H3 := (kj.trans (KG.of ex1)).trans (KG.of e3)
        cases b with
        | false =>
          rw [if_neg (by decide)] at hb ⊢
          exact ⟨acc, o, st3, α3, vs, osj, g3, k3, fj, hva, by rw [← hg]; exact hb⟩
        | true =>
          rw [if_pos rfl] at hb ⊢
          intro s H0 C cl fp
          refine wE.mono (he n _ _ σ3 H3 r'' st3 α3 (Gm G (D0 :: osj)) _ ((SB1 s H0 C cl fp).keep e3 w3) (SatE.bindX hb)) fun y H7 ⟨v, st7, α7, os7, p7, h7⟩ => ?_
          obtain ⟨os8, f8, g8⟩ := g3.step2 S1.gf hD p7
          have hD7 : H7 D0 = some (.lst vs) := p7.ext.kp D0 _ g3.out g3.at_
          refine ⟨vs, hD7, ?_, _, _, _, _, _, _, g8, ?_, fun a ha => ?_, ?_, by rw [← hg]; exact h7⟩
          · rw [hva]; exact Nat.lt_of_lt_of_le (Nat.lt_of_not_le hmx) (maxLen_le (Nat.le_refl _))
          · exact (k3.trans (KG.of p7.ext)).trans (KG.upd (fun z => z.2 List.mem_cons_self) fun u hu => by rw [hD7] at hu; cases hu; exact id)
          · rcases f8 a ha with z | z
            · exact fj a z
            · exact .inr (k3.fresh (p7.fr a z))
          · rw [List.length_append, List.length_cons, hva]; rfl
      match ifs1, hc with
      | [], hc0 =>
        have hc1 : cond' = .lit (.bl true) := hc0
        subst hc1
        refine body stj αj Hx1 (Ext.refl _ _) wx1 true ?_
        rw [if_pos rfl]
        have e : evE (T.P.env n) (.lit (.bl true)) r'' stj = .ok (.all, .bl true) stj := by unfold evE; rfl
        rw [e] at hs
        have e2 := R.bind_assoc (evE (T.P.env n) elt' r'' stj).noX (fun v st => (R.ok (some v) st : R (Option VD))) (fun v st => match v with | some (o', d) => rest d o' st | none => rest0 st)
        rw [show ((evE (T.P.env n) elt' r'' stj).noX.bind fun v st => rest v.2 v.1 st) = (((evE (T.P.env n) elt' r'' stj).noX.bind fun v st => (R.ok (some v) st : R (Option VD))).bind fun v st => match v with | some (o', d) => rest d o' st | none => rest0 st) from e2.symm]
        exact hs
      | [c], hc0 =>
        show bT X scope c σ3 Hx1 _
        intro s H0 C cl fp
        refine wT.mono (hc0 n _ _ σ3 Hx1 r'' stj αj (Gm G (D0 :: osj)) _ (SB1 s H0 C cl fp) (SatE.bindXT (a := fun st3 => (evE (T.P.env n) elt' r'' st3).noX.bind fun v st => rest v.2 v.1 st) (b := rest0) (fun v st => ?_) hs)) fun b H3 ⟨st3, α3, e3, w3, h3⟩ => body st3 α3 H3 e3 w3 b h3
        cases truthD v.2 with
        | none => rfl
        | some c =>
          cases c with
          | false => rfl
          | true => exact R.bind_assoc _ _ _
theorem ifsB2 {n : Nat} {X : Cx} {scope : Scope} {ifs1 : List Expr} {cond' : Ex} (hc : ImplTs T N (relS scope sc) ifs1 cond') : ∀ (s : Shared) (H0 : Hp) (C : Addr) (cl : List (Str × Addr)) (fp : List Addr), PTs (X.blk s H0 scope (compEnvC scope cl C X.env) fp) ifs1 (bTs X scope ifs1) := fun s H0 C cl fp => by
  match ifs1, hc with
  | [], _ => exact pts_nil
  | [c], _ => exact pts_one ⟨fun pins s' σ' H' Q' I q => q s H0 C cl fp pins s' I⟩
theorem impl_lc2 {elt tg iter tg1 iter1 : Expr} {ifs1 : List Expr} {scope : Scope} {own : List (Str × Nat)} {pos : Pos} {elt' cond' : Ex} {tg' tg1' : Tg} {it' it1' : It} (hb : blkC N sc scope own = true) (ho : own.map (·.2) = slotsOf tg' ++ slotsOf tg1') (ht : okTg (locC sc scope) N tg tg' = true) (ht1 : okTg (locC sc scope) N tg1 tg1' = true) (hsl : (slotsOf tg').all (fun i => decide (i < N.length)) = true) (hsl1 : (slotsOf tg1').all (fun i => decide (i < N.length)) = true) (hdj : (itV it1').all (fun i => !(slotsOf tg1').contains i) = true) (hns : notSet iter = true) (hns1 : notSet iter1 = true)
    (hi : ImplI T N sc tg iter it') (hi1 : ImplI T N (relS scope sc) tg1 iter1 it1') (hc : ImplTs T N (relS scope sc) ifs1 cond') (he : ImplE T N (relS scope sc) elt elt') : ImplE T N sc (.ListComp elt [⟨tg, iter, [], 0⟩, ⟨tg1, iter1, ifs1, 0⟩] scope pos) (.lc2 elt' tg' it' tg1' it1' cond') := by
  intro n X W σ H r st α G Q S h
  refine wE.of (pe_lc2 (g := gOf X.K tg') (tt := tYes) (wi1 := bI X scope tg1 iter1) (g1 := gOf X.K tg1') (tt1 := bTs X scope ifs1) (te := bE X scope elt) (vs1 := slotsOf tg1') S.ok.calm (by rw [S.ok.hN]; exact S.ok.nd) pi_w (blkOk_by (by rw [S.ok.hN, S.ok.hsc]; exact hb)) (fun i hi => by rw [ho]; exact List.mem_append_right _ hi) (fun s H0 C cl fp => pg_of (X := X.blk s H0 scope (compEnvC scope cl C X.env) fp) S.ok.hN S.ok.nd S.ok.calm (locC_by S.ok s H0 scope cl C fp) ht) (fun _ _ _ _ _ => pts_nil)
    (fun s H0 C cl fp => ⟨fun pins s' σ' H' R' I h => h s H0 C cl fp pins s' I⟩)
    (fun s H0 C cl fp => pg_of (X := X.blk s H0 scope (compEnvC scope cl C X.env) fp) S.ok.hN S.ok.nd S.ok.calm (locC_by S.ok s H0 scope cl C fp) ht1) (ifsB2 (n := n) hc)
    (fun s H0 C cl fp => ⟨fun pins s' σ' H' Q' I q => q s H0 C cl fp pins s' I⟩) (notSet_by hns X.env) (notSet_all hns1)) ?_
  rw [ho]
  exact lc2_te hsl hsl1 hdj hi hi1 hc he n X W σ H r st α G Q S h
theorem impl_asgLc2 {x : Str} {i : Nat} {p spos : Pos} {elt tg iter tg1 iter1 : Expr} {ifs1 : List Expr} {scope : Scope} {own : List (Str × Nat)} {pos : Pos} {elt' cond' : Ex} {tg' tg1' : Tg} {it' it1' : It} (hb : blkC N sc scope own = true) (ho : own.map (·.2) = slotsOf tg' ++ slotsOf tg1') (ht : okTg (locC sc scope) N tg tg' = true) (ht1 : okTg (locC sc scope) N tg1 tg1' = true) (hsl : (slotsOf tg').all (fun i => decide (i < N.length)) = true) (hsl1 : (slotsOf tg1').all (fun i => decide (i < N.length)) = true) (hdj : (itV it1').all (fun i => !(slotsOf tg1').contains i) = true) (hns : notSet iter = true) (hns1 : notSet iter1 = true)
    (hi : ImplI T N sc tg iter it') (hi1 : ImplI T N (relS scope sc) tg1 iter1 it1') (hc : ImplTs T N (relS scope sc) ifs1 cond') (he : ImplE T N (relS scope sc) elt elt') (hx : N[i]? = some x) (hne : x ≠ ("self" : Str)) (hl : sc.names.lookup x = some .local) (hk : sc.kind = .function) (hline : (p.line == pos.line) = true) (ha : (scope.names.any fun (n, k) => n == x && (k == .local || k == .cell)) = false) :
    ImplS T N sc (.Assign [.Name x p] (.ListComp elt [⟨tg, iter, [], 0⟩, ⟨tg1, iter1, ifs1, 0⟩] scope pos) spos) (.asg i (.lc2 elt' tg' it' tg1' it1' cond')) := by
  intro n X E α0 H0 G Bd r σ α H st OS D hfn I h
  unfold evS at h
  have lt : i < N.length := (List.getElem?_eq_some_iff.mp hx).1
  refine wS.of (ps_setLc2 (wi := wI X tg iter) (g := gOf X.K tg') (tt := tYes) (wi1 := bI X scope tg1 iter1) (g1 := gOf X.K tg1') (tt1 := bTs X scope ifs1) (te := bE X scope elt) (vs1 := slotsOf tg1') I.ok.calm (by rw [I.ok.hN]; exact I.ok.nd) (by rw [I.ok.hN]; exact hx) (by rw [I.ok.hsc]; exact hl) (sw_true (by rw [I.ok.hsc]; exact hk) (by rw [I.ok.hsc]; exact hl) hline ha) pi_w (blkOk_by (by rw [I.ok.hN, I.ok.hsc]; exact hb)) (fun i hi => by rw [ho]; exact List.mem_append_right _ hi) (fun s H0 C cl fp => pg_of (X := X.blk s H0 scope (compEnvC scope cl C X.env) fp) I.ok.hN I.ok.nd I.ok.calm (locC_by I.ok s H0 scope cl C fp) ht) (fun _ _ _ _ _ => pts_nil)
    (fun s H0 C cl fp => ⟨fun pins s' σ' H' R' I h => h s H0 C cl fp pins s' I⟩)
    (fun s H0 C cl fp => pg_of (X := X.blk s H0 scope (compEnvC scope cl C X.env) fp) I.ok.hN I.ok.nd I.ok.calm (locC_by I.ok s H0 scope cl C fp) ht1) (ifsB2 (n := n) hc)
    (fun s H0 C cl fp => ⟨fun pins s' σ' H' Q' I q => q s H0 C cl fp pins s' I⟩) (notSet_by hns X.env) (notSet_all hns1)) ?_
  rw [ho]
  show tLc2 _ _ _ _ _ _ _ _ _ σ H (fun x H1 => gName i x σ H1 D.nx)
  rw [evE_fr (T.P.env n) (.lc2 elt' tg' it' tg1' it1' cond') st (agr_hide (exV (.lc2 elt' tg' it' tg1' it1' cond')) (view r))] at h
  refine lc2_te hsl hsl1 hdj hi hi1 hc he n X _ σ H _ st α _ _ (I.sit (exV (.lc2 elt' tg' it' tg1' it1' cond'))) ?_
  cases hm : evE (T.P.env n) (.lc2 elt' tg' it' tg1' it1' cond') (hide (exV (.lc2 elt' tg' it' tg1' it1' cond')) (view r)) st with
  | ok v st' =>
    rw [hm] at h
    intro y H1 α1 os1 p1
    obtain ⟨I1, rv⟩ := I.got (m := N.length) (Nat.le_refl _) p1
    exact h _ α1 H1 _ (I1.take (Nat.le_refl _) lt (by rw [hx]; exact fun z => hne (Option.some.inj z)) (os1 := os1) (os2 := []) (by rw [OSp_at, List.append_nil]) rv)
  | exc c ds st' =>
    rw [hm] at h
    exact fun H' α' cls dd e w x => h H' α' cls dd (I.ext.trans e) w (x.mono fun a g => g.1)
  | no => rw [hm] at h; exact h.elim
end
end PD
/-! DCal: defs keep their promises -/
namespace PD
open PySem PySem.Spec PyProof.Rows L2
/-- a def whose body does what is told of it -/
theorem fng_of {P : Program} {w : World} {K : PySem.W.Frag} {mg : Str → Option Value} {base : Heap} {k : Nat} {f : Addr} {name qual : Str} {params : Arguments} {body : List Stmt} {scope : Scope} {dV kV doc pm cdv ct oc : Value} {an od : Option Addr} {osl : Array (Option Value)} {N ps : List Str} {sp : Sp}
    (lk : K.lookup f = some ⟨oc, od, .func (PySem.W.fnOf name qual params body scope dV kV doc pm an cdv ct), osl⟩) (hcd : PySem.W.codeIn K cdv qual = true) (S : FnScope N ps scope) (hb : Binds K (PySem.W.fnOf name qual params body scope dV kV doc pm an cdv ct) ps [])
    (step : ∀ (A : Around) (outer : List PySem.Env) (s : Shared) (H : Hp) (vs : List V) (Q : VK) (E : XK), Room k (A.deeper (envOfC qual scope s.heap.objs.size f cdv)) → A.guards = some [] → Env0 P w K mg base A outer s H → sp vs H Q E →
      vs.length = ps.length ∧ wSs (cxOf (L2.CX P w) P w K mg base N qual scope f cdv A outer s H E) body { nx := fun _ H' => Q .non H', rt := Q } (L2.start N vs) H) :
    FnG P w K mg base (k + 1) f sp := by
  intro A outer s H us vs Q E room gd e0 rv told
  obtain ⟨len, walk⟩ := step A outer s H vs Q E (room.deeper _) gd e0 told
  have inK : K.In s.heap := e0.mod.kin.keeps fun b o z => (e0.bs b o z).1
  have free : s.heap.NoLimit := e0.mod.nolimit.keeps fun b o z => (e0.bs b o z).1
  have eu : us ++ [] = us := List.append_nil us
  have bound : BindsTo s (PySem.W.fnOf name qual params body scope dV kV doc pm an cdv ct) ⟨us, []⟩ (ps.zip us) := by
    have z := hb s us inK (by rw [eu, ← rv.length, len])
    rw [eu] at z
    exact z
  refine codeAny_call_function room.depth (inK _ _ lk) rfl S.co S.gen rfl (PySem.W.codeRec_of inK hcd) (bound _ _ _ _ ?_)
  refine wpAny_newFunctionEnv_cells S.kind (fun y hy => ?_) fun env he s1 x => ?_
  · rcases S.par y.1 (List.of_mem_zip (show (y.1, y.2) ∈ ps.zip us from hy)).1 with z | z
    · exact .inl z
    · exact .inr ⟨z, PySem.W.cellsFrom_some _ _ _ (.inl z)⟩
  · subst he
    refine ⟨free.keeps x.toInCall.keep, codeAny_func ?_⟩
    have I := inv_start (CX := L2.CX P w) (E := E) S room.hd e0 len rv x
    refine wpAny_mono (walk [] s1 I) (fun fl s' end_ => ?_) fun _ _ z => z
    cases fl with
    | ret u =>
      obtain ⟨v, σ', H', J, r, q⟩ := end_
      exact ⟨v, H', J.os, J.bare, J.base, J.hok, r, q⟩
    | next =>
      obtain ⟨σ', H', J, q⟩ := end_
      exact ⟨V.non, H', J.os, J.bare, J.base, J.hok, rfl, q⟩
    | brk => exact (show False from end_.choose_spec.choose_spec.2).elim
    | cont => exact (show False from end_.choose_spec.choose_spec.2).elim
theorem Facts.own {T : Tab} {n : Nat} {P : Program} {w : World} {K : PySem.W.Frag} {mg : Str → Option Value} {base : Heap} (h : Facts T n P w K mg base) (v : Option V) : Facts { T with self := v } n P w K mg base :=
  ⟨h.blt, h.rp, h.len, h.gl, h.fn, h.new, h.cls, h.plc, h.kit, h.kitC, h.meth⟩
theorem startS_at {ns : Nat} {ds : List D} {i : Nat} {o : Own} {d : D} (h : (startS ns ds)[i]? = some (some (o, d))) : ds[i]? = some d ∧ o = flatO d := by
  unfold startS at h
  by_cases z : i < ds.length
  · rw [List.getElem?_append_left (by rw [List.length_map]; exact z), List.getElem?_map, List.getElem?_eq_getElem z] at h
    simp only [Option.map_some, Option.some.injEq, Prod.mk.injEq] at h
    obtain ⟨rfl, rfl⟩ := h
    exact ⟨List.getElem?_eq_getElem z, rfl⟩
  · rw [List.getElem?_append_right (by rw [List.length_map]; omega)] at h
    have := List.mem_of_getElem? h
    exact absurd (List.eq_of_mem_replicate this) (by simp)
theorem start_at {N : List Str} {vs : List V} {i : Nat} {v : V} (h : vs[i]? = some v) : (L2.start N vs)[i]? = some (some v) := by
  unfold L2.start
  have z := (List.getElem?_eq_some_iff.mp h).1
  rw [List.getElem?_append_left (by rw [List.length_map]; exact z), List.getElem?_map, h]
  rfl
section
variable {T : Tab} {n : Nat} {P : Program} {w : World} {K : PySem.W.Frag} {mg : Str → Option Value} {base : Heap} {f : Nat} {F : Fn} {fa : Addr} {name qual : Str} {params : Arguments} {body : List Stmt} {scope : Scope} {dV kV doc pm cdv ct oc : Value} {an od : Option Addr} {osl : Array (Option Value)} {N ps : List Str}
theorem run_fn {ds : List D} {st : Store} (hF : T.P.fns[f]? = some F) (hi : F.ini = none) : run T.P (n + 1) f ds st = if ds.length = F.np then fin (evSs (T.P.env n) T.P.wf F.body (startS F.ns ds) st) else .no := by
  show (match T.P.fns[f]? with | none => _ | some F => _) = _
  rw [hF]
  simp only
  rw [hi]
theorem run_ini {ds : List D} {st : Store} {c : Nat} (hF : T.P.fns[f]? = some F) (hi : F.ini = some c) : run T.P (n + 1) f ds st = if ds.length + 1 = F.np then finI (evSs (T.P.env n) T.P.wf F.body (put 0 (.all, .ins c []) (startS F.ns (.non :: ds))) st) else .no := by
  show (match T.P.fns[f]? with | none => _ | some F => _) = _
  rw [hF]
  simp only
  rw [hi]
theorem xok_of {A : Around} {outer : List PySem.Env} {s : Shared} {H : Hp} {E : XK} (S : FnScope N ps scope) (room : Room (4 * n + 3) (A.deeper (envOfC qual scope s.heap.objs.size fa cdv))) (gd : A.guards = some []) (fx : Facts T n P w K mg base) :
    XOk T n N scope (cxOf (L2.CX P w) P w K mg base N qual scope fa cdv A outer s H E) :=
  ⟨rfl, S.nd, rfl, rfl, room, gd, fx⟩
theorem tk_of {A : Around} {outer : List PySem.Env} {s : Shared} {H : Hp} {E : XK} : Takes (cxOf (L2.CX P w) P w K mg base N qual scope fa cdv A outer s H E) (fun c d _ H' => E c d H') := takes_of rfl rfl rfl rfl
theorem sok_of {A : Around} {outer : List PySem.Env} {s : Shared} {H : Hp} {E : XK} : SOk scope (cxOf (L2.CX P w) P w K mg base N qual scope fa cdv A outer s H E) := ⟨fun _ _ => rfl, passes_of rfl⟩
/-- a def keeps its promise one call deeper -/
theorem def_fn (hF : T.P.fns[f]? = some F) (hini : F.ini = none) (hnp : F.np = ps.length) (hns : F.ns = N.length) (hself : T.self = none) (hle : ps.length ≤ N.length) (hbody : ImplSs T N scope body F.body) (fx : Facts T n P w K mg base)
    (lk : K.lookup fa = some ⟨oc, od, .func (PySem.W.fnOf name qual params body scope dV kV doc pm an cdv ct), osl⟩) (hcd : PySem.W.codeIn K cdv qual = true) (S : FnScope N ps scope) (hb : Binds K (PySem.W.fnOf name qual params body scope dV kV doc pm an cdv ct) ps []) :
    FnG P w K mg base (4 * (n + 1)) fa (SpF T K (n + 1) f) := by
  refine fng_of (k := 4 * n + 3) (N := N) lk hcd S hb fun A outer s H vs Q E room gd e0 told => ?_
  obtain ⟨ds, α, G, st, rl, ws, gf, sat⟩ := told
  rw [run_fn hF hini] at sat
  split at sat
  · rename_i hl
    have lv : vs.length = ds.length := rl.len
    refine ⟨by omega, ?_⟩
    have I : SInv T n N scope (cxOf (L2.CX P w) P w K mg base N qual scope fa cdv A outer s H E) E α H G (fun _ _ _ => True) (startS F.ns ds) (L2.start N vs) α H st (fun _ => []) := by
      refine ⟨xok_of S room gd fx, tk_of, fun v hv => (by rw [hself] at hv; cases hv), gf, Ext.refl _ _, ws, ?_, ?_, fun i o d h => ?_, fun _ _ z => (by cases z), fun _ _ z => (by cases z), fun _ => List.nodup_nil, fun _ _ _ _ z => (by cases z), fun _ _ _ _ _ _ _ _ => trivial, trivial⟩
      · unfold L2.start
        rw [List.length_append, List.length_map, List.length_replicate]
        omega
      · unfold startS
        rw [List.length_append, List.length_map, List.length_replicate]
        omega
      · obtain ⟨h1, rfl⟩ := startS_at h
        obtain ⟨v, os', h2, h3, h4⟩ := RepL.ix rl h1
        obtain rfl := List.sublist_nil.mp h3
        refine ⟨v, start_at h2, ?_⟩
        have r1 : Rep K T.CT α (Gx G (fun _ => []) []) H d .no v [] := Rep.ext (Ext.refl _ _) (fun a g _ => ⟨g, fun _ _ z => (by cases z)⟩) _ h4
        unfold flatO
        split
        · rename_i fl
          exact (Rep.flat _ fl r1).2
        · exact r1
    refine hbody n _ E α H G _ _ _ α H st _ _ sok_of I ?_
    cases hm : evSs (T.P.env n) T.P.wf F.body (startS F.ns ds) st with
    | ok fl st' =>
      rw [hm] at sat
      cases fl with
      | next r => exact fun σ' α' H' OS' I' => sat .non H' α' [] ⟨I'.ext, I'.ws, by show Rep K T.CT α' (Gm G []) H' .non .all .non []; unfold Rep; exact ⟨rfl, rfl⟩, fun _ z => (by cases z), List.nodup_nil⟩
      | ret v => exact sat
      | brk r => exact sat.elim
      | cnt r => exact sat.elim
    | exc c ds' st' => rw [hm] at sat; exact sat
    | no => rw [hm] at sat; exact sat.elim
  · exact sat.elim
/-- .. an __init__ -/
theorem def_ini {c : Nat} (hF : T.P.fns[f]? = some F) (hini : F.ini = some c) (hkc : T.P.kc c = true) (hnp : F.np = ps.length) (hns : F.ns = N.length) (hle : ps.length ≤ N.length) (hN0 : N[0]? = some ("self" : Str)) (hbody : ∀ v, ImplSs { T with self := v } N scope body F.body) (fx : Facts T n P w K mg base)
    (lk : K.lookup fa = some ⟨oc, od, .func (PySem.W.fnOf name qual params body scope dV kV doc pm an cdv ct), osl⟩) (hcd : PySem.W.codeIn K cdv qual = true) (S : FnScope N ps scope) (hb : Binds K (PySem.W.fnOf name qual params body scope dV kV doc pm an cdv ct) ps []) :
    FnG P w K mg base (4 * (n + 1)) fa (SpI T K (n + 1) f c) := by
  refine fng_of (k := 4 * n + 3) (N := N) lk hcd S hb fun A outer s H vs Q E room gd e0 told => ?_
  obtain ⟨x, dx, H0, us, ds, α, G, st, rfl, hx, hd, hne, rfl, rl, ws, gf, sat⟩ := told
  rw [run_ini hF hini] at sat
  split at sat
  · rename_i hl
    have lv : us.length = ds.length := rl.len
    have hsl : (T.CT c).slotted = true := (fx.cls c hkc).2.2.2.1
    have hx' : upd H0 dx (.own x) x = none := by rw [upd_ne (Ne.symm hne)]; exact hx
    generalize hH : upd (upd H0 dx (.own x)) x (.ins (T.CT c).C dx []) = H
    have ex : Ext α H0 α H := by rw [← hH]; exact (Ext.new hd).trans (Ext.new hx')
    have w2 : WS α st H := by rw [← hH]; exact (ws.new hd).new hx'
    have Hx : H x = some (.ins (T.CT c).C dx []) := by rw [← hH]; exact upd_same
    have Hd : H dx = some (.own x) := by rw [← hH, upd_ne hne]; exact upd_same
    refine ⟨by rw [List.length_cons]; omega, ?_⟩
    have I : SInv { T with self := some (V.ref x) } n N scope (cxOf (L2.CX P w) P w K mg base N qual scope fa cdv A outer s H E) E α H0 G (fun _ _ _ => True) (put 0 (.all, .ins c []) (startS F.ns (.non :: ds))) (L2.start N (V.ref x :: us)) α H st (fun j => if j = 0 then [x, dx] else []) := by
      have z0 : ∀ (j : Nat) (a : Addr), a ∈ (if j = 0 then [x, dx] else []) → j = 0 ∧ (a = x ∨ a = dx) := fun j a h => by
        by_cases q : j = 0
        · rw [if_pos q] at h
          exact ⟨q, by simpa using h⟩
        · rw [if_neg q] at h
          cases h
      refine ⟨xok_of S room gd (fx.own _), tk_of, fun v hv => ?_, gf, ex, w2, ?_, ?_, fun i o d h => ?_, fun i a h => ?_, fun i a h => ?_, fun i => ?_, fun i j hij a ha z => hij ((z0 i a ha).1.trans (z0 j a z).1.symm), fun _ _ _ _ _ _ _ _ => trivial, trivial⟩
      · cases hv
        exact ⟨hN0, start_at rfl⟩
      · unfold L2.start
        rw [List.length_append, List.length_map, List.length_replicate, List.length_cons]
        omega
      · unfold PD.put startS
        rw [List.length_set, List.length_append, List.length_map, List.length_replicate, List.length_cons]
        omega
      · unfold PD.put at h
        by_cases q : i = 0
        · subst q
          rw [List.getElem?_set_self (by unfold startS; rw [List.length_append, List.length_map, List.length_cons]; omega)] at h
          cases h
          refine ⟨.ref x, start_at rfl, ?_⟩
          unfold Rep
          refine ⟨x, dx, [], [], rfl, ws.out hx, ws.out hd, Ne.symm hne, ⟨_, Hx⟩, ⟨_, Hd⟩, ?_, repL_nil, by rw [if_neg (by decide), if_pos rfl]⟩
          unfold InsAt
          rw [if_pos hsl]
          exact ⟨[], .inl ⟨Hx, rfl⟩, .inl Hd, fun k u z => by simp at z⟩
        · rw [List.getElem?_set_ne (Ne.symm q)] at h
          obtain ⟨h1, rfl⟩ := startS_at h
          obtain ⟨m, rfl⟩ : ∃ m, i = m + 1 := ⟨i - 1, by omega⟩
          rw [List.getElem?_cons_succ] at h1
          obtain ⟨v, os', h2, h3, h4⟩ := RepL.ix rl h1
          obtain rfl := List.sublist_nil.mp h3
          refine ⟨v, start_at (by rw [List.getElem?_cons_succ]; exact h2), ?_⟩
          have r1 : Rep K T.CT α (Gx G (fun j => if j = 0 then [x, dx] else []) []) H d .no v [] := Rep.ext ex (fun a g ⟨u, hu⟩ => ⟨g, fun j _ z => by
            rcases (z0 j a z).2 with z | z
            · rw [z, hx] at hu; cases hu
            · rw [z, hd] at hu; cases hu⟩) _ h4
          rw [if_neg (by omega)]
          unfold flatO
          split
          · rename_i fl
            exact (Rep.flat _ fl r1).2
          · exact r1
      · rcases (z0 i a h).2 with z | z
        · rw [z]; exact hx
        · rw [z]; exact hd
      · rcases (z0 i a h).2 with z | z
        · rw [z]; exact ⟨_, Hx⟩
        · rw [z]; exact ⟨_, Hd⟩
      · by_cases q : i = 0
        · rw [if_pos q]; simp [Ne.symm hne]
        · rw [if_neg q]; exact List.nodup_nil
    refine hbody _ n _ E α H0 G _ _ _ α H st _ _ sok_of I ?_
    show SatS { T with self := some (V.ref x) } n N scope (cxOf (L2.CX P w) P w K mg base N qual scope fa cdv A outer s H E) E α H0 G _ _ (evSs (T.P.env n) T.P.wf F.body (put 0 (.all, .ins c []) (startS F.ns (.non :: ds))) st)
    cases hm : evSs (T.P.env n) T.P.wf F.body (put 0 (.all, .ins c []) (startS F.ns (.non :: ds))) st with
    | ok fl st' =>
      rw [hm] at sat
      cases fl with
      | next r =>
        unfold finI at sat
        simp only at sat
        split at sat
        · rename_i v hr
          intro σ' α' H' OS' I'
          obtain ⟨v0, h1, h2⟩ := I'.rep 0 v.1 v.2 hr
          obtain ⟨_, h3⟩ := I'.slf (.ref x) rfl
          rw [h1] at h3
          cases h3
          exact sat (.ref x) H' α' (OS' 0) ⟨I'.ext, I'.ws, Rep.ext (Ext.refl _ _) (fun a g _ => ⟨g.1, g.2 0 (by simp)⟩) _ h2, I'.fr 0, I'.nd 0⟩ rfl
        · exact sat.elim
      | ret v => exact sat.elim
      | brk r => exact sat.elim
      | cnt r => exact sat.elim
    | exc c ds' st' => rw [hm] at sat; exact sat
    | no => rw [hm] at sat; exact sat.elim
  · exact sat.elim
end
end PD
/-! DEnT: enumerate over a tuple -/
namespace PD
open PySem PySem.Spec PyProof.Rows L2
open Sem (wp)
theorem meets_enumerate_newT {v : Value} {o : Obj} {H : Heap → Prop} (B : Begins v o H) :
    Meets (Builtin.«enumerate.__new__» ⟨[.type "enumerate", v], []⟩) (fun _ R s => H s.heap ∧
      R (.ok (.ret (.ref (s.heap.push o).objs.size))) { s with heap := (s.heap.push o).push { cls := .type "enumerate", data := .fields #[.none, .bool false, .ref s.heap.objs.size, rawInt 0, .none, .none] } }) :=
  .of_wp fun prog w A R s h => by
    obtain ⟨hp, g, d, tk, os⟩ := s; obtain ⟨h1, h⟩ := h
    have hsub := sub_enumerate
    have q1 : ∀ {A' : Around} {E : Value → Shared → Prop} {Q : Value → Shared → Prop}, Q (.ref hp.objs.size) ⟨hp.push o, g, d, tk, os⟩ → wpAny (model prog w) A' (pyIter v) Q E ⟨hp, g, d, tk, os⟩ :=
      fun q => B.iter prog w _ _ ⟨hp, g, d, tk, os⟩ _ h1 q
    wp_walk using q1
    refine wpAny_stack_any fun st => wpAny_pure ?_
    split
    · rename_i c _ _ _ _ _
      cases (c == Value.type "enumerate")
      · wp_walk using q1
        exact ⟨_, rfl, h⟩
      · wp_walk using q1
        exact ⟨_, rfl, h⟩
    · wp_walk using q1
      exact ⟨_, rfl, h⟩
theorem call_enumerate_at {prog : Program} {w : World} {A : Around} {E : Value → Shared → Prop} {s : Shared} {v : Value} {o : Obj} {H : Heap → Prop} {Q : Value → Shared → Prop} (B : Begins v o H) (h1 : H s.heap)
    (h : ∀ h', IsEnum h' (s.heap.objs.size + 1) s.heap.objs.size 0 .none → h'.get? s.heap.objs.size = some o → h'.objs.size = s.heap.objs.size + 2 →
      (∀ b o, s.heap.get? b = some o → h'.get? b = some o) → Q (.ref (s.heap.objs.size + 1)) { s with heap := h' }) :
    wpAny (model prog w) A (call (.type "enumerate") [v]) Q E s := by
  refine callType_new F.called_enumerate (by decide) (F.typeCall_enumerate_1 _) (F.newCall_enumerate_1 _) (fun obj => F.args_object_init_2 obj _) F.entry_enumerate_new
    (meets_enumerate_newT B) ⟨h1, ?_⟩
  have hz : (s.heap.push o).objs.size = s.heap.objs.size + 1 := Heap.size_push ..
  show _ ∧ _
  rw [hz]
  have he : IsEnum ((s.heap.push o).push { cls := .type "enumerate", data := .fields #[.none, .bool false, .ref s.heap.objs.size, rawInt 0, .none, .none] }) (s.heap.objs.size + 1) s.heap.objs.size 0 .none := by
    have := Heap.get?_push_size (s.heap.push o) (o := { cls := .type "enumerate", data := .fields #[.none, .bool false, .ref s.heap.objs.size, rawInt 0, .none, .none] }) rfl
    rw [hz] at this; exact this
  refine ⟨⟨_, he, rfl⟩, h _ he (Heap.get?_push_of_some _ (Heap.get?_push_size _ B.free)) (by rw [Heap.size_push, hz]) fun b o x => Heap.get?_push_of_some _ (Heap.get?_push_of_some _ x)⟩
/-- the items of the tuple at a, each in a new pair -/
def Iet (K : PySem.W.Frag) (a : Addr) : L2.It :=
  ⟨fun i H => ∃ (xs : List V) (x : V), SqT K H a xs ∧ xs[i]? = some x, fun i H v H' => ∃ T x, v = .ref T ∧ H T = none ∧ H' = upd H T (.tup [.int (i : Nat), x]) ∧ ∀ xs, SqT K H a xs → xs[i]? = some x, fun i H => ∃ xs : List V, SqT K H a xs ∧ xs.length = i⟩
theorem turn_enumT {P : Program} {w : World} {K : PySem.W.Frag} {elts : List Expr} {kk : Nat} {tpos : Pos} (a e it : Addr) :
    Turn P w K (.Tuple elts kk tpos) (Iet K a) [e, it] e (fun i h => (∃ old, IsEnum h e it ((i : Nat) : Int) old) ∧ h.IsTupleIter it a i ∧ e ≠ it) where
  mem := by simp
  obj := fun i h st b hb => by
    obtain ⟨⟨old, he⟩, ⟨o, ho, hc, hd⟩, _⟩ := st
    have e' : b = e ∨ b = it := by simpa using hb
    rcases e' with z | z
    · rw [z]; exact ⟨_, he, fun v q => nomatch q⟩
    · rw [z]; exact ⟨o, ho, fun v q => by rw [hd] at q; cases q⟩
  keep := fun i h h' st k => let ⟨⟨old, he⟩, hi, hne⟩ := st; ⟨⟨old, k e (by simp) _ he⟩, hi.at fun o q => k it (by simp) o q, hne⟩
  item := by
    intro X hP hw hK hc i pins s σ H E I hf st hg
    subst hP hw hK
    obtain ⟨⟨old, he⟩, hit, hne⟩ := st
    obtain ⟨xs, x, hq, hx⟩ := hg
    obtain ⟨its, rv, p, hz⟩ := I.tuple hq
    obtain ⟨u, hu, ru⟩ := rv.get hx
    have hel : e < s.heap.objs.size := Heap.lt_size he
    have hil : it < s.heap.objs.size := by obtain ⟨_, q, _⟩ := hit; exact Heap.lt_size q
    have pt : s.heap.IsTuple a its.toArray := p
    have hea : e ≠ a := fun z => by
      obtain ⟨o, ho, hc', _⟩ := pt
      rw [← z] at ho
      cases he.symm.trans ho
      have q : Value.type "enumerate" = Value.type "tuple" := hc'
      exact absurd q (by decide)
    have hia : a ≠ it := fun z => by
      obtain ⟨o, ho, hc', _⟩ := pt
      obtain ⟨o2, ho2, hc2, _⟩ := hit
      rw [z] at ho
      cases ho2.symm.trans ho
      rw [hc'] at hc2
      exact absurd hc2 (by decide)
    have hi : i < its.toArray.size := by
      have := (List.getElem?_eq_some_iff.mp hu).1
      simpa using this
    refine wpAny_pyNext_enum_itemD (Draws.tuple (show X.A.in1.handled = none from I.ok.hd hc) it a hia its.toArray) he ⟨hit, pt⟩ hi hne (by simpa using ⟨hne, hea⟩) fun v h' tk hP ho hit' hT hsz hk => ?_
    have hv : v = u := by
      have hP' : its.toArray[i]? = some v := hP
      have : its[i]? = some v := by simpa using hP'
      rw [hu] at this
      cases this
      rfl
    subst hv
    refine ⟨_, rfl, wpAny_letOwnedTupleGo_enum (s := { s with heap := h', toks := tk + 1 }) ho fun h'' he' sb => ?_⟩
    have hT2 : h''.get? s.heap.objs.size = some { cls := .type "tuple", data := .seq #[.int i tk, v] } := (sb.2 _ (Nat.ne_of_gt hel)).trans hT
    have new : ObjOk X.prog X.w (upd H s.heap.objs.size (.tup [.int (i : Nat), x])) h'' s.heap.objs.size (.tup [.int (i : Nat), x]) :=
      ⟨by show 2 ≤ sizeLine; decide, [.int i tk, v], .cons ⟨_, rfl⟩ (.cons ru .nil), ⟨_, hT2, rfl, _, rfl⟩⟩
    have I1 : Inv X pins σ (upd H s.heap.objs.size (.tup [.int (i : Nat), x])) { s with heap := h'', toks := tk + 1 } :=
      I.turnedNew (ch := [e, it]) (fun b ob hb q => (sb.2 b (fun z => hb (by simp [z]))).trans (hk b ob (fun z => hb (by simp [z])) (fun z => hb (by simp [z])) q)) hf (Nat.le_refl _) new
    refine ⟨.ref s.heap.objs.size, _, I1, rfl, ⟨_, x, rfl, I.hok.fresh (Nat.le_refl _), rfl, fun ys hy => by rw [I.tuple_inj hy hq]; exact hx⟩, ⟨⟨v, ?_⟩, hit'.1.at fun o q => (sb.2 it (Ne.symm hne)).trans q, hne⟩, fun b hb => ?_⟩
    · have e1 : ((i + 1 : Nat) : Int) = (i : Int) + 1 := by omega
      rw [e1]; exact he'
    · have hb' : b < s.heap.objs.size := by
        have e' : b = e ∨ b = it := by simpa using hb
        rcases e' with z | z
        · rw [z]; exact hel
        · rw [z]; exact hil
      rw [upd_ne (Nat.ne_of_lt hb')]
      exact (hf b hb).1
  done := by
    intro X hP hw hK hc i pins s σ H E I hf st hg
    subst hP hw hK
    obtain ⟨⟨old, he⟩, hit, hne⟩ := st
    obtain ⟨xs, hq, hx⟩ := hg
    obtain ⟨its, rv, p, hz⟩ := I.tuple hq
    have pt : s.heap.IsTuple a its.toArray := p
    have hl := rv.length
    have hia : a ≠ it := fun z => by
      obtain ⟨o, ho, hc', _⟩ := pt
      obtain ⟨o2, ho2, hc2, _⟩ := hit
      rw [z] at ho
      cases ho2.symm.trans ho
      rw [hc'] at hc2
      exact absurd hc2 (by decide)
    obtain ⟨f0, f1, f2, f3, f4, f5⟩ := hf it (by simp)
    have hn : i = its.toArray.size := by simp; omega
    subst hn
    exact wpAny_pyNext_enum_endD (Draws.tuple (show X.A.in1.handled = none from I.ok.hd hc) it a hia its.toArray) he ⟨hit, pt⟩ fun h' eb => ⟨rfl, I.turned (t' := s.toks) (fun b o hb q => eb b o hb q) f0 f1 f3 f4 f5⟩
  self := fun A i s Q E st h => let ⟨⟨_, he⟩, _⟩ := st; wpAny_pyIter_enum he h
theorem walk_enumT {K : PySem.W.Frag} {a : Addr} {xs : List V} : Walk (Iet K a) xs.length (fun H => SqT K H a xs) (fun i H v H' => ∃ T x, v = .ref T ∧ H T = none ∧ H' = upd H T (.tup [.int (i : Nat), x]) ∧ xs[i]? = some x) :=
  ⟨fun i _ hi q => ⟨xs, xs[i], q, by simp [hi]⟩, fun _ q => ⟨xs, q, rfl⟩, fun i H v H' _ q y => by
    obtain ⟨T, x, h1, h2, h3, h4⟩ := y
    exact ⟨T, x, h1, h2, h3, h4 xs q⟩⟩
end PD
/-! DEnum: enumerate over a list, over a text -/
namespace PD
open PySem PySem.Spec PyProof.Rows L2
theorem draws_text {prog : Program} {w : World} {A : Around} (hh : A.handled = none) (it : Addr) (x : Str) (t : Tok) : Draws prog w A it [it] x.cps.size (fun i v => ∃ c u, x.cps[i]? = some c ∧ v = .str ⟨#[c]⟩ u) (fun i h => h.IsStrIter it (strIterType x) x t i) := by
  unfold strIterType
  split
  · exact .strAscii hh it x t
  · exact .strWide hh it x t
/-- the signs of a text, each in a new pair -/
def Ies (x : Str) : L2.It := ⟨fun i _ => i < x.cps.size, fun i H v H' => ∃ T c, v = .ref T ∧ H T = none ∧ H' = upd H T (.tup [.int (i : Nat), .str ⟨#[c]⟩]) ∧ x.cps[i]? = some c, fun i _ => i = x.cps.size⟩
theorem turn_enumS {P : Program} {w : World} {K : PySem.W.Frag} {elts : List Expr} {kk : Nat} {tpos : Pos} (x : Str) (t : Tok) (e it : Addr) :
    Turn P w K (.Tuple elts kk tpos) (Ies x) [e, it] e (fun i h => (∃ old, IsEnum h e it ((i : Nat) : Int) old) ∧ h.IsStrIter it (strIterType x) x t i ∧ e ≠ it) where
  mem := by simp
  obj := fun i h st b hb => by
    obtain ⟨⟨old, he⟩, ⟨o, ho, hc, hd⟩, _⟩ := st
    have e' : b = e ∨ b = it := by simpa using hb
    rcases e' with z | z
    · rw [z]; exact ⟨_, he, fun v q => nomatch q⟩
    · rw [z]; exact ⟨o, ho, fun v q => by rw [hd] at q; cases q⟩
  keep := fun i h h' st k => let ⟨⟨old, he⟩, ⟨o, ho, r⟩, hne⟩ := st; ⟨⟨old, k e (by simp) _ he⟩, ⟨o, k it (by simp) o ho, r⟩, hne⟩
  item := by
    intro X hP hw hK hc i pins s σ H E I hf st hg
    subst hP hw hK
    obtain ⟨⟨old, he⟩, hit, hne⟩ := st
    have hel : e < s.heap.objs.size := Heap.lt_size he
    have hil : it < s.heap.objs.size := by obtain ⟨_, q, _⟩ := hit; exact Heap.lt_size q
    refine wpAny_pyNext_enum_itemD (draws_text (show X.A.in1.handled = none from I.ok.hd hc) it x t) he hit hg hne (by simpa using hne) fun v h' tk hP ho hit' hT hsz hk => ?_
    obtain ⟨c, u, hcx, rfl⟩ := hP
    refine ⟨_, rfl, wpAny_letOwnedTupleGo_enum (s := { s with heap := h', toks := tk + 1 }) ho fun h'' he' sb => ?_⟩
    have hT2 : h''.get? s.heap.objs.size = some { cls := .type "tuple", data := .seq #[.int i tk, .str ⟨#[c]⟩ u] } := (sb.2 _ (Nat.ne_of_gt hel)).trans hT
    have new : ObjOk X.prog X.w (upd H s.heap.objs.size (.tup [.int (i : Nat), .str ⟨#[c]⟩])) h'' s.heap.objs.size (.tup [.int (i : Nat), .str ⟨#[c]⟩]) :=
      ⟨by show 2 ≤ sizeLine; decide, [.int i tk, .str ⟨#[c]⟩ u], .cons ⟨_, rfl⟩ (.cons ⟨_, rfl⟩ .nil), ⟨_, hT2, rfl, _, rfl⟩⟩
    have I1 : Inv X pins σ (upd H s.heap.objs.size (.tup [.int (i : Nat), .str ⟨#[c]⟩])) { s with heap := h'', toks := tk + 1 } :=
      I.turnedNew (ch := [e, it]) (fun b ob hb q => (sb.2 b (fun z => hb (by simp [z]))).trans (hk b ob (fun z => hb (by simp [z])) (fun z => hb (by simp [z])) q)) hf (Nat.le_refl _) new
    refine ⟨.ref s.heap.objs.size, _, I1, rfl, ⟨_, c, rfl, I.hok.fresh (Nat.le_refl _), rfl, hcx⟩, ⟨⟨.str ⟨#[c]⟩ u, ?_⟩, ?_, hne⟩, fun b hb => ?_⟩
    · have e1 : ((i + 1 : Nat) : Int) = (i : Int) + 1 := by omega
      rw [e1]; exact he'
    · obtain ⟨o, q, r⟩ := hit'
      exact ⟨o, (sb.2 it (Ne.symm hne)).trans q, r⟩
    · have hb' : b < s.heap.objs.size := by
        have e' : b = e ∨ b = it := by simpa using hb
        rcases e' with z | z
        · rw [z]; exact hel
        · rw [z]; exact hil
      rw [upd_ne (Nat.ne_of_lt hb')]
      exact (hf b hb).1
  done := by
    intro X hP hw hK hc i pins s σ H E I hf st hg
    subst hP hw hK
    obtain ⟨⟨old, he⟩, hit, hne⟩ := st
    obtain ⟨f0, f1, f2, f3, f4, f5⟩ := hf it (by simp)
    subst hg
    exact wpAny_pyNext_enum_endD (draws_text (show X.A.in1.handled = none from I.ok.hd hc) it x t) he hit fun h' eb => ⟨rfl, I.turned (t' := s.toks) (fun b o hb q => eb b o hb q) f0 f1 f3 f4 f5⟩
  self := fun A i s Q E st h => let ⟨⟨_, he⟩, _⟩ := st; wpAny_pyIter_enum he h
theorem walk_enumS {x : Str} : Walk (Ies x) x.cps.size (fun _ => True) (fun i H v H' => ∃ T c, v = .ref T ∧ H T = none ∧ H' = upd H T (.tup [.int (i : Nat), .str ⟨#[c]⟩]) ∧ x.cps[i]? = some c) :=
  ⟨fun _ _ hi _ => hi, fun _ _ => rfl, fun _ _ _ _ _ _ y => y⟩
theorem enumD_len : ∀ (xs : List D) (n : Int), (enumD n xs).length = xs.length
  | [], _ => rfl
  | x :: xs, n => by
    show (enumD (n + 1) xs).length + 1 = _
    rw [enumD_len xs]
    rfl
theorem enumD_at : ∀ (xs : List D) (n : Int) (i : Nat), (enumD n xs)[i]? = (xs[i]?).map fun x => .tup [.int (n + i), x]
  | [], _, i => by simp [enumD]
  | x :: xs, n, 0 => by simp [enumD]
  | x :: xs, n, i + 1 => by
    show (enumD (n + 1) xs)[i]? = _
    rw [enumD_at xs, List.getElem?_cons_succ]
    cases xs[i]? with
    | none => rfl
    | some y =>
      show some (D.tup [.int (n + 1 + i), y]) = some (D.tup [.int (n + (i + 1 : Nat)), y])
      congr 4
      omega
section
variable {K : PySem.W.Frag} {CT : CTab} {α : List Addr} {H : Hp} {G : Addr → Prop}
/-- a new pair -/
theorem pair_new {α2 : List Addr} {G2 : Addr → Prop} {H2 : Hp} {T : Addr} {d1 d2 : D} {v1 v2 : V} (tr : ∀ a ∈ α2, ∃ u, H2 a = some u) (hT : H2 T = none) (r1 : Rep K CT α2 G2 H2 d1 .no v1 []) (r2 : Rep K CT α2 G2 H2 d2 .no v2 []) :
    Ext α2 H2 α2 (upd H2 T (.tup [v1, v2])) ∧ Rep K CT α2 G2 (upd H2 T (.tup [v1, v2])) (.tup [d1, d2]) .no (.ref T) [] := by
  have e : Ext α2 H2 α2 (upd H2 T (.tup [v1, v2])) := Ext.new hT
  refine ⟨e, ?_⟩
  unfold Rep
  refine ⟨T, [v1, v2], rfl, .inl ⟨.inl upd_same, fun z => by
    obtain ⟨u, hu⟩ := tr T z
    rw [hT] at hu
    cases hu⟩, ?_⟩
  refine RepL.ext e (fun _ g _ => g) _ ?_
  unfold RepL
  refine ⟨v1, [v2], [], [], rfl, rfl, r1, ?_⟩
  unfold RepL
  exact ⟨v2, [], [], [], rfl, rfl, r2, repL_nil⟩
theorem wk_enum {a : Addr} {xs : List D} {vs : List V} (ha : H a = some (.lst vs)) (ga : G a) (na : a ∉ α) (r : RepL K CT α G H xs .no vs []) : WalkD K CT G α H (Ite K a) (enumD 0 xs) := by
  have l := r.len
  refine ⟨fun H => SqL K H a vs, _, by rw [enumD_len, ← l]; exact walk_enum (K := K) (a := a) (xs := vs), fun α2 H2 k => .inl (.inl (k.kp a _ na ha (.inl ga))), fun i x α2 H2 H3 G2 hi k tr2 hg y => ?_⟩
  rw [enumD_len] at hi
  obtain ⟨T, w1, w2, rfl, hT, rfl, e1, e2⟩ := y
  have hd : xs[i]? = some xs[i] := List.getElem?_eq_getElem hi
  obtain ⟨v, os', h1, h2, h3⟩ := RepL.ix r hd
  have e2' : vs[i]? = some w2 := e2
  rw [e2'] at h1
  cases h1
  obtain rfl := List.sublist_nil.mp h2
  have e1' : some (V.int (i : Nat)) = some w1 := e1
  cases e1'
  have r1 : Rep K CT α2 G2 H2 (.int (0 + i)) .no (.int (i : Nat)) [] := by
    rw [Int.zero_add]
    unfold Rep
    exact ⟨rfl, rfl⟩
  obtain ⟨q1, q2⟩ := pair_new tr2 hT r1 (Rep.kg k (fun a g t => ⟨hg a g t, g⟩) _ (fun _ z => (by cases z)) h3)
  exact ⟨_, by rw [enumD_at, hd]; rfl, q1, q2, .inr ⟨T, _, hT, rfl⟩⟩
theorem wk_enumT {a : Addr} {xs : List D} {vs : List V} (ha : TupAt K α H a vs) (r : RepL K CT α G H xs .no vs []) : WalkD K CT G α H (Iet K a) (enumD 0 xs) := by
  have l := r.len
  refine ⟨fun H => SqT K H a vs, _, by rw [enumD_len, ← l]; exact walk_enumT (K := K) (a := a) (xs := vs), fun α2 H2 k => (ha.kg k).sqT, fun i x α2 H2 H3 G2 hi k tr2 hg y => ?_⟩
  rw [enumD_len] at hi
  obtain ⟨T, w2, rfl, hT, rfl, e2⟩ := y
  have hd : xs[i]? = some xs[i] := List.getElem?_eq_getElem hi
  obtain ⟨v, os', h1, h2, h3⟩ := RepL.ix r hd
  have e2' : vs[i]? = some w2 := e2
  rw [e2'] at h1
  cases h1
  obtain rfl := List.sublist_nil.mp h2
  have r1 : Rep K CT α2 G2 H2 (.int (0 + i)) .no (.int (i : Nat)) [] := by
    rw [Int.zero_add]
    unfold Rep
    exact ⟨rfl, rfl⟩
  obtain ⟨q1, q2⟩ := pair_new tr2 hT r1 (Rep.kg k (fun a g t => ⟨hg a g t, g⟩) _ (fun _ z => (by cases z)) h3)
  exact ⟨_, by rw [enumD_at, hd]; rfl, q1, q2, .inr ⟨T, _, hT, rfl⟩⟩
theorem wk_enumS (s : List Nat) : WalkD K CT G α H (Ies (toStr s)) (enumD 0 (s.map fun c => .str [c])) := by
  refine ⟨_, _, by rw [enumD_len, List.length_map, show s.length = (toStr s).cps.size from (toStr_len s).symm]; exact walk_enumS (x := toStr s), fun _ _ _ => trivial, fun i x α2 H2 H3 G2 hi k tr2 hg y => ?_⟩
  obtain ⟨T, c, rfl, hT, rfl, hc⟩ := y
  have hc' : s[i]? = some c := by simpa [toStr] using hc
  have r1 : Rep K CT α2 G2 H2 (.int (0 + i)) .no (.int (i : Nat)) [] := by
    rw [Int.zero_add]
    unfold Rep
    exact ⟨rfl, rfl⟩
  have r2 : Rep K CT α2 G2 H2 (.str [c]) .no (.str ⟨#[c]⟩) [] := by
    unfold Rep
    exact ⟨rfl, rfl⟩
  obtain ⟨q1, q2⟩ := pair_new tr2 hT r1 r2
  exact ⟨_, by rw [enumD_at, List.getElem?_map, hc']; rfl, q1, q2, .inr ⟨T, _, hT, rfl⟩⟩
end
section
variable {T : Tab} {N : List Str} {sc : Scope}
theorem impl_enum {e : Expr} {e' : Ex} {p pos tpos : Pos} {elts : List Expr} {kk : Nat} (he : ImplE T N sc e e') (hg : sc.names.lookup ("enumerate" : Str) = some .globalImplicit) (hs : noStar e = true) : ImplI T N sc (.Tuple elts kk tpos) (.Call (.Name "enumerate" p) [e] [] pos) (.enum e') := by
  intro n X W σ H r st α G R S h pins s I
  unfold evIt at h
  have hw : tCons (wE X e) tNil σ H (fun vs H1 => ∃ (x : V) (v : VD) (st1 : Store) (α1 os1 : List Addr), vs = [x] ∧ Post X.K T.CT α H G st1 v.1 v.2 x H1 α1 os1 ∧ SatI X.K T.CT W σ α H G R (.of ((seqE v.2).map (enumD 0)) st1)) :=
    wE.mono (he n X W σ H r st α G _ S (h.bind (Ext.refl _ _))) fun x H1 ⟨v, st1, α1, os1, p1, h1⟩ => ⟨x, v, st1, α1, os1, rfl, p1, h1⟩
  refine Call_ (ld_blt I (Sit.gl hg S.ok) (S.ok.F.blt _ (by simp)) boot_enumerate (PyProof.Rows.callWith_type1 (thn ((pa_cons pe_w pa_nil (star_of hs _ _)).run pos pins s σ H _ I hw) fun us s1 ⟨vs, H1, I1, r1, q1⟩ => ?_) (star_of hs _ _) rfl))
  obtain ⟨x, v, st1, α1, os1, rfl, p1, h1⟩ := q1
  obtain ⟨u, rfl, ru⟩ : ∃ u, us = [u] ∧ RelV x u := by
    cases r1 with
    | cons r rr => cases rr; exact ⟨_, rfl, r⟩
  have S1 := S.keep p1.ext p1.ws
  have rx := p1.shared S.gf
  cases hq : seqE v.2 with
  | none => rw [hq] at h1; exact h1.elim
  | some xs =>
    rw [hq] at h1
    have k1 : ∀ J H' α', Ext α H α' H' → WS α' st1 H' → WalkD X.K T.CT G α' H' J (enumD 0 xs) → R J H' := h1
    clear h1
    have fpOk : ∀ b ∈ [s1.heap.objs.size + 1, s1.heap.objs.size], FpOk X pins H1 b := fun b hb => by
      have e' : b = s1.heap.objs.size + 1 ∨ b = s1.heap.objs.size := by simpa using hb
      have hle : s1.heap.objs.size ≤ b := by
        rcases e' with z | z
        · rw [z]; exact Nat.le_add_right _ _
        · rw [z]; exact Nat.le_refl _
      exact I1.fpOk hle (I1.hok.fresh hle)
    unfold seqE at hq
    split at hq <;> cases hq
    · rename_i hv
      rw [hv] at rx
      obtain ⟨a, vs, rfl, ha, rl, na, ga⟩ := lst_of rx
      obtain rfl : u = .ref a := ru
      obtain ⟨its, rv, p', hz⟩ := I1.list (.inl (.inl ha))
      refine call_enumerate_list p'.isList fun h' he hit hsz hk => wpAny_pyIter_enum he ?_
      have I2 : Inv X pins σ H1 { s1 with heap := h' } := I1.kept (t' := s1.toks) hk
      exact ⟨s1.heap.objs.size + 1, [s1.heap.objs.size + 1, s1.heap.objs.size], _, _, H1, rfl, I2, turn_enum a (s1.heap.objs.size + 1) s1.heap.objs.size, ⟨⟨.none, he⟩, hit, Nat.succ_ne_self _⟩, fpOk, k1 _ H1 α1 p1.ext p1.ws (wk_enum ha ga na rl)⟩
    · rename_i hv
      rw [hv] at rx
      obtain ⟨a, vs, rfl, ha, rl⟩ := tup_of rx
      obtain rfl : u = .ref a := ru
      obtain ⟨its, rv, p', hz⟩ := I1.tuple ha.sqT
      refine call_enumerate_at (begins_tuple a its.toArray) (show s1.heap.IsTuple a its.toArray from p') fun h' he hit hsz hk => wpAny_pyIter_enum he ?_
      have I2 : Inv X pins σ H1 { s1 with heap := h' } := I1.kept (t' := s1.toks) hk
      exact ⟨s1.heap.objs.size + 1, [s1.heap.objs.size + 1, s1.heap.objs.size], _, _, H1, rfl, I2, turn_enumT a (s1.heap.objs.size + 1) s1.heap.objs.size, ⟨⟨.none, he⟩, ⟨_, hit, rfl, rfl⟩, Nat.succ_ne_self _⟩, fpOk, k1 _ H1 α1 p1.ext p1.ws (wk_enumT ha rl)⟩
    · rename_i t hv
      rw [hv] at rx
      rw [rep_str rx] at ru
      obtain ⟨tk, rfl⟩ := ru
      refine call_enumerate_str fun h' he hit hsz hk => wpAny_pyIter_enum he ?_
      have I2 : Inv X pins σ H1 { s1 with heap := h' } := I1.kept (t' := s1.toks) hk
      exact ⟨s1.heap.objs.size + 1, [s1.heap.objs.size + 1, s1.heap.objs.size], _, _, H1, rfl, I2, turn_enumS (toStr t) tk (s1.heap.objs.size + 1) s1.heap.objs.size, ⟨⟨.none, he⟩, hit, Nat.succ_ne_self _⟩, fpOk, k1 _ H1 α1 p1.ext p1.ws (wk_enumS t)⟩
end
end PD
/-! DSw: what a checker may tell of stores by the text alone -/
namespace PD
open PySem PySem.Spec PyProof.Rows L2
/-- no comprehension -/
def swF : Expr → Bool
  | .ListComp _ _ _ _ => false
  | .SetComp _ _ _ _ => false
  | .DictComp _ _ _ _ _ => false
  | _ => true
theorem swF_by {e : Expr} (h : swF e = true) (t : Option Expr) (l : Nat) (env : PySem.Env) : swapsWith e t l env = pure false := by
  unfold swapsWith
  cases e <;> first | rfl | cases h
def vis (sc : Scope) (x : Str) : Bool := match sc.names.lookup x with
  | some .local => true
  | some .cell => true
  | some .free => true
  | _ => false
theorem vis_by {sc : Scope} {x : Str} (h : vis sc x = true) : Vis sc x := by
  unfold vis at h
  split at h
  · rename_i z; exact .inl z
  · rename_i z; exact .inr (.inl z)
  · rename_i z; exact .inr (.inr z)
  · cases h
theorem sw_par2 {sc : Scope} {x y : Str} {a b : Expr} {px py pt pt2 : Pos} {kt k2 : Nat} (hk : sc.kind = .function) (hx : sc.names.lookup x = some .local) (hy : sc.names.lookup y = some .local) (hl : (py.line == px.line) = true) (hxy : x ≠ y) (sa : noStar a = true) (sb : noStar b = true)
    (h1 : [a, b].all (foldedForSure 8) = false) (h2 : [a, b].all (constantsAlone 8) = false) : ∀ env : PySem.Env, env.scope = sc → swappedStores [.Tuple [.Name x px, .Name y py] kt pt] (.Tuple [a, b] k2 pt2) env = pure (some [x, y]) := by
  intro env he
  have e1 : env.kindOf x = some .local := by unfold PySem.Env.kindOf; rw [he]; exact hx
  have e2 : env.kindOf y = some .local := by unfold PySem.Env.kindOf; rw [he]; exact hy
  have e3 : env.blockKind = .function := by unfold PySem.Env.blockKind; rw [he, hk]; rfl
  have sA : ∀ e : Expr, noStar e = true → (match e with | .Starred .. => true | _ => false) = false := fun e h => by
    cases e <;> first | rfl | cases h
  have hl' : (py.line == px.line) = true := hl
  unfold swappedStores
  simp only [e1, e2, e3, h1, h2, List.length_cons, List.length_nil, List.head?_cons, Option.map_some, Option.getD_some, Expr.pos, List.filterMap_cons, List.filterMap_nil, hl', beq_self_eq_true, Bool.and_self, if_true]
  simp [List.eraseDups_cons, hxy, Ne.symm hxy]
  rintro (h | h)
  · exact absurd ((sA a sa).symm.trans h) (by decide)
  · exact absurd ((sA b sb).symm.trans h) (by decide)
theorem sw_par3 {sc : Scope} {x y z : Str} {a b c : Expr} {px py pz pt pt2 : Pos} {kt k2 : Nat} (hk : sc.kind = .function) (hx : sc.names.lookup x = some .local) (hy : sc.names.lookup y = some .local) (hz : sc.names.lookup z = some .local) (hl : (py.line == px.line) = true) (hl2 : (pz.line == px.line) = true) (hxy : x ≠ y) (hxz : x ≠ z) (hyz : y ≠ z) (sa : noStar a = true) (sb : noStar b = true) (sc' : noStar c = true)
    (h1 : [a, b, c].all (foldedForSure 8) = false) (h2 : [a, b, c].all (constantsAlone 8) = false) : ∀ env : PySem.Env, env.scope = sc → swappedStores [.Tuple [.Name x px, .Name y py, .Name z pz] kt pt] (.Tuple [a, b, c] k2 pt2) env = pure (some [x, y, z]) := by
  intro env he
  have e1 : env.kindOf x = some .local := by unfold PySem.Env.kindOf; rw [he]; exact hx
  have e2 : env.kindOf y = some .local := by unfold PySem.Env.kindOf; rw [he]; exact hy
  have e4 : env.kindOf z = some .local := by unfold PySem.Env.kindOf; rw [he]; exact hz
  have e3 : env.blockKind = .function := by unfold PySem.Env.blockKind; rw [he, hk]; rfl
  have sA : ∀ e : Expr, noStar e = true → (match e with | .Starred .. => true | _ => false) = false := fun e h => by
    cases e <;> first | rfl | cases h
  have hl' : (py.line == px.line) = true := hl
  have hl2' : (pz.line == px.line) = true := hl2
  unfold swappedStores
  simp only [e1, e2, e3, e4, h1, h2, List.length_cons, List.length_nil, List.head?_cons, Option.map_some, Option.getD_some, Expr.pos, List.filterMap_cons, List.filterMap_nil, hl', hl2', beq_self_eq_true, Bool.and_self, if_true]
  simp [List.eraseDups_cons, hxy, Ne.symm hxy, hxz, Ne.symm hxz, hyz, Ne.symm hyz]
  rintro (h | h | h)
  · exact absurd ((sA a sa).symm.trans h) (by decide)
  · exact absurd ((sA b sb).symm.trans h) (by decide)
  · exact absurd ((sA c sc').symm.trans h) (by decide)
end PD
/-! DSt8: dicts of one's own, a list emptied, a tuple taken apart, a tuple of one's own given back -/
namespace PD
open PySem PySem.Spec PyProof.Rows L2
section
variable {K : PySem.W.Frag} {CT : CTab} {α : List Addr} {G : Addr → Prop} {H : Hp}
theorem any_key {k : D} {kk : Key} (hk : keyR k kk) : ∀ {ks : List D} {kvs : List (Key × V)}, keysR ks (kvs.map Prod.fst) → ks.any (keq · k) = kvs.any fun kv => decide (kv.1 = kk)
  | [], kvs, h => by
    unfold keysR at h
    have e : kvs = [] := List.map_eq_nil_iff.mp h
    subst e
    rfl
  | k1 :: ks, [], h => by
    unfold keysR at h
    obtain ⟨_, _, e, _⟩ := h
    simp at e
  | k1 :: ks, kv :: kvs, h => by
    unfold keysR at h
    obtain ⟨q, r, e, h1, h2⟩ := h
    rw [List.map_cons, List.cons.injEq] at e
    obtain ⟨rfl, rfl⟩ := e
    rw [List.any_cons, List.any_cons, any_key hk h2]
    congr 1
    by_cases c : kv.1 = kk
    · rw [(keq_iff h1 hk).mpr c, decide_eq_true c]
    · rw [decide_eq_false c]
      cases q : keq k1 k with
      | true => exact absurd ((keq_iff h1 hk).mp q) c
      | false => rfl
theorem repl_rep {k : D} {kk : Key} (hk : keyR k kk) {d : D} {v : V} (rd : Rep K CT α G H d .no v []) : ∀ {ks ds : List D} {kvs : List (Key × V)}, keysR ks (kvs.map Prod.fst) → RepL K CT α G H ds .no (kvs.map Prod.snd) [] →
    RepL K CT α G H (replD k d ks ds) .no ((kvs.map fun kv => if kv.1 = kk then (kv.1, v) else kv).map Prod.snd) []
  | [], ds, kvs, h, r => by
    unfold keysR at h
    have e : kvs = [] := List.map_eq_nil_iff.mp h
    subst e
    exact r
  | k1 :: ks, [], kvs, h, r => by
    unfold RepL at r
    have e : kvs = [] := List.map_eq_nil_iff.mp r.1
    subst e
    exact repL_nil
  | k1 :: ks, d1 :: ds, [], h, r => by
    unfold RepL at r
    obtain ⟨_, _, _, _, e, _⟩ := r
    simp at e
  | k1 :: ks, d1 :: ds, kv :: kvs, h, r => by
    unfold keysR at h
    obtain ⟨q, r', e, h1, h2⟩ := h
    rw [List.map_cons, List.cons.injEq] at e
    obtain ⟨rfl, rfl⟩ := e
    unfold RepL at r
    obtain ⟨v1, vs, os1, os2, e2, e3, r1, r2⟩ := r
    rw [List.map_cons, List.cons.injEq] at e2
    obtain ⟨rfl, rfl⟩ := e2
    obtain ⟨rfl, rfl⟩ := List.append_eq_nil_iff.mp e3.symm
    have ih := repl_rep hk rd h2 r2
    rw [List.map_cons, List.map_cons]
    show RepL K CT α G H ((if keq k1 k then d else d1) :: replD k d ks ds) .no _ []
    unfold RepL
    by_cases c : kv.1 = kk
    · rw [if_pos ((keq_iff h1 hk).mpr c), if_pos c]
      exact ⟨v, _, [], [], rfl, rfl, rd, ih⟩
    · rw [if_neg (fun z => c ((keq_iff h1 hk).mp z)), if_neg c]
      exact ⟨kv.2, _, [], [], rfl, rfl, r1, ih⟩
theorem keys_repl {kk : Key} {v : V} (kvs : List (Key × V)) : (kvs.map fun kv => if kv.1 = kk then (kv.1, v) else kv).map Prod.fst = kvs.map Prod.fst := by
  rw [List.map_map]
  refine List.map_congr_left fun kv _ => ?_
  show (if kv.1 = kk then (kv.1, v) else kv).1 = kv.1
  split <;> rfl
theorem keys_snoc {k : D} {kk : Key} (hk : keyR k kk) : ∀ {ks : List D} {l : List Key}, keysR ks l → keysR (ks ++ [k]) (l ++ [kk])
  | [], l, h => by
    unfold keysR at h
    subst h
    show keysR [k] [kk]
    unfold keysR
    exact ⟨kk, [], rfl, hk, rfl⟩
  | k1 :: ks, l, h => by
    unfold keysR at h
    obtain ⟨q, r, rfl, h1, h2⟩ := h
    show keysR (k1 :: (ks ++ [k])) _
    unfold keysR
    exact ⟨q, r ++ [kk], rfl, h1, keys_snoc hk h2⟩
theorem put_rep {k : D} {kk : Key} (hk : keyR k kk) {d : D} {v : V} (rd : Rep K CT α G H d .no v []) {ks ds : List D} {kvs : List (Key × V)} (h : keysR ks (kvs.map Prod.fst)) (r : RepL K CT α G H ds .no (kvs.map Prod.snd) []) :
    keysR (putD k d ks ds).1 ((putK kvs kk v).map Prod.fst) ∧ RepL K CT α G H (putD k d ks ds).2 .no ((putK kvs kk v).map Prod.snd) [] := by
  unfold putD putK
  rw [any_key hk h]
  split
  · refine ⟨?_, repl_rep hk rd h r⟩
    rw [keys_repl]
    exact h
  · rw [List.map_append, List.map_append]
    refine ⟨keys_snoc hk h, ?_⟩
    have z := r.append (ds := ds) (es := [d]) (ws := [v]) (os' := []) (by unfold RepL; exact ⟨v, [], [], [], rfl, rfl, rd, repL_nil⟩)
    exact z
theorem flatL_repl {k d : D} (hd : flat d = true) : ∀ {ks ds : List D}, flatL ds = true → flatL (replD k d ks ds) = true
  | [], ds, h => h
  | k1 :: ks, [], h => h
  | k1 :: ks, d1 :: ds, h => by
    have h : (flat d1 && flatL ds) = true := h
    rw [Bool.and_eq_true] at h
    show (flat (if keq k1 k then d else d1) && flatL (replD k d ks ds)) = true
    rw [flatL_repl hd h.2]
    split
    · rw [hd]; rfl
    · rw [h.1]; rfl
theorem flatL_snoc {d : D} (hd : flat d = true) : ∀ {ds : List D}, flatL ds = true → flatL (ds ++ [d]) = true
  | [], _ => by show (flat d && true) = true; rw [hd]; rfl
  | d1 :: ds, h => by
    have h : (flat d1 && flatL ds) = true := h
    rw [Bool.and_eq_true] at h
    show (flat d1 && flatL (ds ++ [d])) = true
    rw [h.1, flatL_snoc hd h.2]
    rfl
theorem flatL_put {k d : D} (hd : flat d = true) {ks ds : List D} (h : flatL ds = true) : flatL (putD k d ks ds).2 = true := by
  unfold putD
  split
  · exact flatL_repl hd h
  · exact flatL_snoc hd h
end
section
variable {T : Tab} {N : List Str} {sc : Scope} {n : Nat} {X : Cx} {E : XK} {α0 α α1 : List Addr} {H0 H H1 H2 : Hp} {G : Addr → Prop} {Bd Bd' : List Addr → Hp → Own1 → Prop} {r : SRho} {σ : L2.St} {st st1 : Store} {OS : Own1} {De : Ends}
/-- x[k] = e, x a dict of one's own whose values are flat -/
theorem impl_setD {x : Str} {i : Nat} {k e : Expr} {k' e' : Ex} {p p2 pos : Pos} (hi : N[i]? = some x) (hv : Vis sc x) (h1 : (x == ("__debug__" : Str)) = false) (h2 : (x == ("__classdict__" : Str)) = false) (hp : plainIx k = true) (hk : ImplE T N sc k k') (he : ImplE T N sc e e') :
    ImplS T N sc (.Assign [.Subscript (.Name x p) k p2] e pos) (.setD i k' e') := by
  intro n X E α0 H0 G Bd r σ α H st OS D hfn I h
  unfold evS at h
  have lt : i < N.length := (List.getElem?_eq_some_iff.mp hi).1
  have im : i ≠ N.length := by omega
  split at h
  · rename_i o ks ds hr
    split at h
    · rename_i hoz
      refine wS.of (ps_asg pe_w (pg_sub (pe_var (by rw [I.ok.hN]; exact hi) (by rw [I.ok.hsc]; exact hv) h1 h2) pe_w (set_dict (by have := I.ok.hu; omega)) (asg_sub hp _ _ _)) (swaps_sub _ _ _ _ _ _) (swap_sub _ _ _ _ _) rfl) ?_
      refine wE.mono (he.at I h) fun y H1 ⟨v, st1, α1, os2, p1, h3⟩ => ?_
      split at h3
      · rename_i hc
        obtain ⟨hall, hfl, hfv, hlen⟩ := hc
        have eos : os2 = [] := (Rep.flat (G' := G) (o' := .no) _ hfl p1.rep).1
        subst eos
        have I0 := I.keep p1.ext p1.ws
        have rv0 := p1.shared (I.gfx (exV e'))
        obtain ⟨v0, k1, k2⟩ := I0.rep i o _ hr
        have k2' := k2
        unfold Rep at k2'
        obtain ⟨a, _, _, rfl, _⟩ := k2'
        refine ⟨.ref a, k1, ?_⟩
        refine wE.mono (hk.at I0 h3) fun z H2 ⟨w, st2, α2, osk, p2, h4⟩ => ?_
        split at h4
        · rename_i hkey
          have I1 := I0.keep p2.ext p2.ws
          have rz := p2.shared (I0.gfx (exV k'))
          obtain ⟨kk, hkk, ez⟩ := key_rep hkey rz
          subst ez
          have rv := Rep.ext p2.ext (fun a g _ => g) _ rv0
          obtain ⟨v1, k3, k4⟩ := I1.rep i o _ hr
          rw [k1] at k3
          cases k3
          have k5 := k4
          unfold Rep at k5
          obtain ⟨a', kvs, os3, e1, na1, hks, rl1, ha1⟩ := k5
          cases e1
          rw [if_neg hoz] at ha1
          obtain ⟨rfl, _⟩ := RepL.flat (G' := G) (o' := .no) _ hfv rl1
          have llen : kvs.length < sizeLine := by
            have l := keysR_len hks
            rw [List.length_map] at l
            have := maxLen_lt hlen
            omega
          refine ⟨a, _, rfl, DPut.k ha1.1 llen, ?_⟩
          have mi : a ∈ OS i := by rw [ha1.2]; exact List.mem_cons_self
          have hw : ∀ b, b ∉ [a] → upd H2 a (.dK (putK kvs kk y)) b = H2 b := fun b hb => upd_ne (by simpa using hb)
          have hwr : ∀ b ∈ [a], b ∈ OS i ∧ b ∉ α2 ∧ (∃ u, upd H2 a (.dK (putK kvs kk y)) b = some u) ∧ ∀ u, H2 b = some u → ¬ Fix u := fun b hb => by
            rw [List.mem_singleton.mp hb]
            exact ⟨mi, na1, ⟨_, upd_same⟩, fun u hu => by rw [ha1.1] at hu; cases hu; exact id⟩
          have kg : KG (fun b => b ≠ a) α2 H2 α2 (upd H2 a (.dK (putK kvs kk y))) := KG.upd (by simp) fun u hu => by rw [ha1.1] at hu; cases hu; exact id
          have q1 : RepL X.K T.CT α2 (fun _ => False) (upd H2 a (.dK (putK kvs kk y))) ds .no (kvs.map Prod.snd) [] := (RepL.kg (G' := fun _ => False) kg (fun b g _ => g.elim) _ (fun b hb => by cases hb) (RepL.flat (G' := fun _ => False) (o' := .no) _ hfv rl1).2)
          have q2 : Rep X.K T.CT α2 (fun _ => False) (upd H2 a (.dK (putK kvs kk y))) v.2 .no y [] := (Rep.kg (G' := fun _ => False) kg (fun b g _ => g.elim) _ (fun b hb => by cases hb) (Rep.flat (G' := fun _ => False) (o' := .no) _ hfl rv).2)
          obtain ⟨q3, q4⟩ := put_rep hkk q2 hks q1
          refine h4 σ α2 _ _ (I1.write (Nat.le_refl _) lt (os' := [a]) (wr := [a]) hr k1 hw hwr (fun b hb => by rw [List.mem_singleton.mp hb]; exact .inl mi) (by simp) ?_)
          unfold Rep
          refine ⟨a, putK kvs kk y, [], rfl, na1, q3, ?_, by rw [if_neg hoz]; exact ⟨upd_same, rfl⟩⟩
          exact (RepL.flat _ (flatL_put hfl hfv) q4).2
        · exact h4.elim
      · exact h3.elim
    · exact h.elim
  · exact h.elim
/-- x.clear() -/
theorem impl_clr {x : Str} {i : Nat} {p apos cpos pos : Pos} (hi : N[i]? = some x) (hv : Vis sc x) (h1 : (x == ("__debug__" : Str)) = false) (h2 : (x == ("__classdict__" : Str)) = false) (hline : (apos.endLine == cpos.line) = true) :
    ImplS T N sc (.Expr (.Call (.Attribute (.Name x p) "clear" apos) [] [] cpos) pos) (.clr i) := by
  intro n X E α0 H0 G Bd r σ α H st OS D hfn I h
  unfold evS at h
  have lt : i < N.length := (List.getElem?_eq_some_iff.mp hi).1
  split at h
  · rename_i o xs hr
    split at h
    · rename_i hoz
      refine wS.of (ps_expr (pe_bm0 F.plainAttrs_list F.slot_list_clear F.type_list_clear mt_clear (pe_var (by rw [I.ok.hN]; exact hi) (by rw [I.ok.hsc]; exact hv) h1 h2) rfl hline) rfl) ?_
      obtain ⟨v0, k1, k2⟩ := I.rep i o _ hr
      unfold Rep at k2
      obtain ⟨a, vs, os', rfl, na, rl, ha⟩ := k2
      rw [if_neg hoz] at ha
      refine ⟨.ref a, k1, .inl ⟨rfl, vs, .inl (.inl ha.1)⟩, a, vs, rfl, rfl, ha.1, ?_⟩
      have mi : a ∈ OS i := by rw [ha.2]; exact List.mem_cons_self
      have hw : ∀ b, b ∉ [a] → upd H a (.lst []) b = H b := fun b hb => upd_ne (by simpa using hb)
      have hwr : ∀ b ∈ [a], b ∈ OS i ∧ b ∉ α ∧ (∃ u, upd H a (.lst []) b = some u) ∧ ∀ u, H b = some u → ¬ Fix u := fun b hb => by
        rw [List.mem_singleton.mp hb]
        exact ⟨mi, na, ⟨_, upd_same⟩, fun u hu => by rw [ha.1] at hu; cases hu; exact id⟩
      refine h σ α _ _ (I.adopt (m := N.length) (Nat.le_refl _) (Ext.refl _ _) I.ws (os := []) (fun _ z => (by cases z)) (fun _ z => (by cases z)) List.nodup_nil |>.write (Nat.le_refl _) lt (os' := [a]) (wr := [a]) hr k1 hw (fun b hb => ?_) (fun b hb => ?_) (by simp) ?_)
      · obtain ⟨q1, q2⟩ := hwr b hb
        exact ⟨by rw [OSp_ne (by omega)]; exact q1, q2⟩
      · rw [List.mem_singleton.mp hb]
        exact .inl (by rw [OSp_ne (by omega)]; exact mi)
      · unfold Rep
        exact ⟨a, [], [], rfl, na, repL_nil, by rw [if_neg (by decide)]; exact ⟨upd_same, rfl⟩⟩
    · exact h.elim
  · exact h.elim
/-! ### a tuple taken apart -/
theorem putsT_any {m : Nat} (hm : N.length ≤ m) {o : Own} : ∀ (is : List Nat) (ds : List D) (vs : List V) {r r' : SRho} {σ : L2.St} {OS : Own1} {os : List Addr}, SInv T n N sc X E α0 H0 G Bd r σ α H st OS → OS m = os → RepL X.K T.CT α (Gx G OS []) H ds o vs os → putsT o is ds r = some r' → (∀ i ∈ is, i < N.length ∧ N[i]? ≠ some ("self" : Str)) →
    ∃ OS', SInv T n N sc X E α0 H0 G Bd r' (setsV is vs σ) α H st OS' ∧ is.length = vs.length
  | [], [], vs, r, r', σ, OS, os, I, _, rl, h, _ => by
    unfold putsT at h
    cases h
    unfold RepL at rl
    rw [rl.1]
    exact ⟨OS, I, rfl⟩
  | i :: is, d :: ds, vs, r, r', σ, OS, os, I, hO, rl, h, hi => by
    unfold putsT at h
    unfold RepL at rl
    obtain ⟨v, vs', os1, os2, rfl, rfl, h3, h4⟩ := rl
    have rd : Rep X.K T.CT α (Gx G OS []) H d (if flat d then .all else o) v os1 := by
      split
      · rename_i f
        obtain ⟨e, z⟩ := Rep.flat (G' := Gx G OS []) (o' := .all) _ f h3
        rw [e]
        exact z
      · exact h3
    have im : i ≠ m := by have := (hi i List.mem_cons_self).1; omega
    have I1 := I.take hm (hi i List.mem_cons_self).1 (hi i List.mem_cons_self).2 (os1 := os1) (os2 := os2) hO rd
    have sub : ∀ j a, a ∈ OSp i os1 (OSp m os2 OS) j → ∃ k, a ∈ OS k := fun j a ha => by
      by_cases q : j = i
      · subst q
        rw [OSp_at] at ha
        exact ⟨m, by rw [hO]; exact List.mem_append_left _ ha⟩
      · rw [OSp_ne q] at ha
        by_cases q2 : j = m
        · subst q2
          rw [OSp_at] at ha
          exact ⟨j, by rw [hO]; exact List.mem_append_right _ ha⟩
        · rw [OSp_ne q2] at ha
          exact ⟨j, ha⟩
    obtain ⟨OS', I2, l⟩ := putsT_any hm is ds vs' I1 (os := os2) (by rw [OSp_ne (Ne.symm im), OSp_at]) (RepL.ext (Ext.refl _ _) (fun a g _ => ⟨g.1, fun j _ z => let ⟨k, hk⟩ := sub j a z; g.2 k (by simp) hk⟩) _ h4) h fun j hj => hi j (List.mem_cons_of_mem _ hj)
    exact ⟨OS', I2, by rw [List.length_cons, List.length_cons, l]⟩
  | [], _ :: _, _, _, _, _, _, _, _, _, _, h, _ => by unfold putsT at h; cases h
  | _ :: _, [], _, _, _, _, _, _, _, _, _, h, _ => by unfold putsT at h; cases h
def notTup : Expr → Bool
  | .Tuple _ _ _ => false
  | .List _ _ => false
  | _ => true
theorem swapped_tup {tg : List Expr} {e : Expr} (h : notTup e = true) (k : Nat) (p : Pos) (env : PySem.Env) : swappedStores [.Tuple tg k p] e env = pure none := by
  unfold swappedStores
  cases e <;> first
    | rfl
    | cases h
theorem sw_cell2 {sc : Scope} {x y : Str} {a b : Expr} {px py pt pt2 : Pos} {kt k2 : Nat} (h : sc.names.lookup x = some .cell ∨ sc.names.lookup y = some .cell) : ∀ env : PySem.Env, env.scope = sc → swappedStores [.Tuple [.Name x px, .Name y py] kt pt] (.Tuple [a, b] k2 pt2) env = pure none := by
  intro env he
  have key : ∀ l : Nat, ([Expr.Name x px, .Name y py].filterMap fun
    | .Name id pos => if env.kindOf id == some .local && pos.line == l then some id else none
    | _ => none).length ≠ 2 := by
    intro l
    rcases h with h | h
    · have e1 : env.kindOf x = some .cell := by unfold PySem.Env.kindOf; rw [he]; exact h
      simp only [List.filterMap_cons, List.filterMap_nil, e1]
      by_cases q : (env.kindOf y == some .local && py.line == l) = true <;> simp [q]
    · have e1 : env.kindOf y = some .cell := by unfold PySem.Env.kindOf; rw [he]; exact h
      simp only [List.filterMap_cons, List.filterMap_nil, e1]
      by_cases q : (env.kindOf x == some .local && px.line == l) = true <;> simp [q]
  unfold swappedStores
  dsimp only
  split
  · rfl
  · split
    · rfl
    · rw [if_pos]
      rw [Bool.or_eq_true]
      left
      rw [bne_iff_ne]
      exact key _
theorem sw_cell1 {sc : Scope} {x : Str} {p : Pos} {e : Expr} {l : Nat} (h : sc.names.lookup x = some .cell) : ∀ env : PySem.Env, env.scope = sc → swapsWith e (some (.Name x p)) l env = pure false := by
  intro env he
  have e1 : env.kindOf x = some .cell := by unfold PySem.Env.kindOf; rw [he]; exact h
  unfold swapsWith
  cases e <;> first
    | rfl
    | (dsimp only
       rw [e1, show (some NameKind.cell == some NameKind.local) = false from rfl]
       simp)
/-- a, b = e -/
theorem impl_asgT {tg : List Expr} {kt : Nat} {pt pos : Pos} {e : Expr} {e' : Ex} {is : List Nat} (ht : okTg (locF sc) N (.Tuple tg kt pt) (.tp is) = true) (hsl : is.all (fun i => decide (i < N.length ∧ N[i]? ≠ some ("self" : Str))) = true) (he : ImplE T N sc e e') (hs : swF e = true) (hn : ∀ env : PySem.Env, env.scope = sc → swappedStores [.Tuple tg kt pt] e env = pure none) :
    ImplS T N sc (.Assign [.Tuple tg kt pt] e pos) (.asgT is e') := by
  intro n X E α0 H0 G Bd r σ α H st OS D hfn I h
  unfold evS at h
  refine wS.of (ps_asg (g := gOf X.K (.tp is)) pe_w (pg_of I.ok.hN I.ok.nd I.ok.calm (locF_by I.ok hfn) ht) (show swapsWith e (some (.Tuple tg kt pt)) pos.line X.env = pure false from swF_by hs _ _ X.env) (hn X.env I.ok.hsc) rfl) ?_
  refine wE.mono (he.at I h) fun y H1 ⟨v, st1, α1, os2, p1, h3⟩ => ?_
  split at h3
  · rename_i ds hv
    split at h3
    · rename_i r' hp
      obtain ⟨I0, rv⟩ := I.got (m := N.length) (Nat.le_refl _) p1
      rw [hv] at rv
      have rv' := rv
      unfold Rep at rv'
      obtain ⟨a, vs, rfl, ha, rl⟩ := rv'
      obtain ⟨OS', I2, l⟩ := putsT_any (Nat.le_refl _) is ds vs I0 OSp_at rl hp fun i hi => of_decide_eq_true (List.all_eq_true.mp hsl i hi)
      exact ⟨a, vs, rfl, ha.sqT, l.symm, gsOf_ok is l.symm (h3 _ α1 H1 OS' I2)⟩
    · exact h3.elim
  · exact h3.elim
/-! ### a tuple given back -/
def okMv (N : List Str) (sc : Scope) : List Expr → Mvs → Bool
  | [], .nil => true
  | .Name x _ :: es, .v i ms => decide (N[i]? = some x) && (vis sc x && (!(x == ("__debug__" : Str)) && (!(x == ("__classdict__" : Str)) && okMv N sc es ms)))
  | .Constant (.int i) _ _ :: es, .e (.lit (.int j)) ms => decide (i = j) && okMv N sc es ms
  | .Constant .none _ _ :: es, .e (.lit .non) ms => okMv N sc es ms
  | _, _ => false
theorem mv_star : ∀ {es : List Expr} {ms : Mvs}, okMv N sc es ms = true → es.all noStar = true
  | [], _, _ => rfl
  | e :: es, ms, h => by
    unfold okMv at h
    split at h
    · rename_i e1; cases e1
    · rename_i e1; cases e1
      simp only [Bool.and_eq_true] at h
      rw [List.all_cons, mv_star h.2.2.2.2]
      rfl
    · rename_i e1; cases e1
      simp only [Bool.and_eq_true] at h
      rw [List.all_cons, mv_star h.2]
      rfl
    · rename_i e1; cases e1
      rw [List.all_cons, mv_star h]
      rfl
    · cases h
theorem mv_ok {r0 : SRho} : ∀ {es : List Expr} {ms : Mvs}, okMv N sc es ms = true → ∀ {r : SRho} {α : List Addr} {H : Hp}, (∀ (j : Nat) (x : VD), r[j]? = some (some x) → r0[j]? = some (some x)) → (∃ b ds, evMv (T.P.env n) ms r st = .ok (b, ds) st) → SInv T n N sc X E α0 H0 G Bd r0 σ α H st OS →
    wL X es σ H fun vs H' => ∃ b ds α' os, evMv (T.P.env n) ms r st = .ok (b, ds) st ∧ Ext α H α' H' ∧ WS α' st H' ∧ RepL X.K T.CT α' G H' ds .no vs [] ∧ (b = true → RepL X.K T.CT α' (fun _ => False) H' ds .all vs os ∧ os.Nodup ∧ ∀ a ∈ os, ∃ j x, r[j]? = some (some x) ∧ a ∈ OS j)
  | [], .nil, h, r, α, H, hr, _, I => by
    refine wL.of pa_nil ?_
    exact ⟨true, [], α, [], by unfold evMv; rfl, Ext.refl _ _, I.ws, repL_nil, fun _ => ⟨repL_nil, List.nodup_nil, fun _ z => (by cases z)⟩⟩
  | .Name x p :: es, .v i ms, h, r, α, H, hr, ⟨b0, ds0, he⟩, I => by
    unfold okMv at h
    simp only [Bool.and_eq_true] at h
    obtain ⟨h1, h2, h3, h4, h5⟩ := h
    unfold evMv at he
    split at he
    · rename_i o d hi
      have he' := he
      cases hm : evMv (T.P.env n) ms (r.set i none) st with
      | exc c dds st2 => rw [hm] at he'; cases he'
      | no => rw [hm] at he'; cases he'
      | ok xs st2 =>
        rw [hm] at he'
        have he2 : R.ok ((o == .all || flat d) && xs.1, d :: xs.2) st2 = .ok (b0, ds0) st := he'
        have es2 : st2 = st := by injection he2
        subst st2
        have hr' : ∀ (j : Nat) (y : VD), (r.set i none)[j]? = some (some y) → j ≠ i ∧ r[j]? = some (some y) := fun j y hj => by
          by_cases q : j = i
          · subst q
            rw [List.getElem?_set] at hj
            split at hj
            · split at hj <;> cases hj
            · rename_i z
              exact absurd rfl z
          · exact ⟨q, by rw [List.getElem?_set_ne (Ne.symm q)] at hj; exact hj⟩
        obtain ⟨v, k1, k2⟩ := I.rep i o d (hr i _ hi)
        refine wL.of (pa_cons (pe_var (by rw [I.ok.hN]; exact of_decide_eq_true h1) (by rw [I.ok.hsc]; exact vis_by h2) (by simpa using h3) (by simpa using h4)) pa_w (star_of rfl _ _)) ?_
        refine ⟨v, k1, ?_⟩
        refine wL.mono (mv_ok h5 (fun j y hj => hr j y (hr' j y hj).2) ⟨xs.1, xs.2, hm⟩ I) fun vs H' ⟨b, ds, α', os, e1, ex, ws, rn, ra⟩ => ?_
        rw [hm] at e1
        have e2 : xs = (b, ds) := by injection e1
        subst e2
        have gO : ∀ a ∈ OS i, G a := fun a ha => I.gf0 a (I.fr i a ha)
        have w1 : Rep X.K T.CT α' G H' d .no v [] := Rep.weak _ (Rep.ext ex (fun a g _ => g.1) _ k2) gO
        refine ⟨(o == .all || flat d) && b, d :: ds, α', (if flat d then [] else OS i) ++ os, ?_, ex, ws, ?_, fun hb => ?_⟩
        · unfold evMv
          rw [hi]
          show (evMv (T.P.env n) ms (r.set i none) st).bind _ = _
          rw [hm]
          rfl
        · unfold RepL
          exact ⟨v, vs, [], [], rfl, rfl, w1, rn⟩
        · rw [Bool.and_eq_true] at hb
          obtain ⟨q1, q2, q3⟩ := ra hb.2
          refine ⟨?_, ?_, fun a ha => ?_⟩
          · unfold RepL
            refine ⟨v, vs, _, os, rfl, rfl, ?_, q1⟩
            by_cases f : flat d = true
            · rw [if_pos f]
              exact (Rep.flat _ f w1).2
            · rw [if_neg f]
              have ho : o = .all := by
                have z := hb.1
                rw [show flat d = false by simpa using f, Bool.or_false] at z
                simpa using z
              subst ho
              exact Rep.all _ (Rep.ext ex (fun a g _ => g) _ k2)
          · refine List.nodup_append.mpr ⟨?_, q2, fun a ha b hb z => ?_⟩
            · split
              · exact List.nodup_nil
              · exact I.nd i
            · subst z
              split at ha
              · cases ha
              · obtain ⟨j, y, hj, hja⟩ := q3 a hb
                exact I.dj i j (Ne.symm (hr' j y hj).1) a ha hja
          · rcases List.mem_append.mp ha with z | z
            · split at z
              · cases z
              · exact ⟨i, _, hi, z⟩
            · obtain ⟨j, y, hj, hja⟩ := q3 a z
              exact ⟨j, y, (hr' j y hj).2, hja⟩
    · cases he
  | .Constant (.int k) kk p :: es, .e (.lit (.int j)) ms, h, r, α, H, hr, ⟨b0, ds0, he⟩, I => by
    unfold okMv at h
    simp only [Bool.and_eq_true] at h
    obtain rfl := of_decide_eq_true h.1
    unfold evMv evE at he
    have efz : fz .all (exV (.lit (.int k))) r = r := by unfold fz; rw [if_pos rfl]
    have he : (evMv (T.P.env n) ms (fz .all (exV (.lit (.int k))) r) st).bind (fun xs st => .ok (true && xs.1, D.int k :: xs.2) st) = .ok (b0, ds0) st := he
    rw [efz] at he
    cases hm : evMv (T.P.env n) ms r st with
    | exc c dds st2 => rw [hm] at he; cases he
    | no => rw [hm] at he; cases he
    | ok xs st2 =>
      rw [hm] at he
      have he2 : R.ok (true && xs.1, D.int k :: xs.2) st2 = .ok (b0, ds0) st := he
      have es2 : st2 = st := by injection he2
      subst st2
      refine wL.of (pa_cons pe_int pa_w (star_of rfl _ _)) ?_
      refine wL.mono (mv_ok h.2 hr ⟨xs.1, xs.2, hm⟩ I) fun vs H' ⟨b, ds, α', os, e1, ex, ws, rn, ra⟩ => ?_
      rw [hm] at e1
      have e2 : xs = (b, ds) := by injection e1
      subst e2
      refine ⟨true && b, D.int k :: ds, α', os, ?_, ex, ws, ?_, fun hb => ?_⟩
      · unfold evMv evE
        show (evMv (T.P.env n) ms (fz .all (exV (.lit (.int k))) r) st).bind _ = _
        rw [efz, hm]
        rfl
      · unfold RepL
        exact ⟨.int k, vs, [], [], rfl, rfl, by unfold Rep; exact ⟨rfl, rfl⟩, rn⟩
      · obtain ⟨q1, q2, q3⟩ := ra (by simpa using hb)
        refine ⟨?_, q2, q3⟩
        unfold RepL
        exact ⟨.int k, vs, [], os, rfl, rfl, by unfold Rep; exact ⟨rfl, rfl⟩, q1⟩
  | .Constant .none kk p :: es, .e (.lit .non) ms, h, r, α, H, hr, ⟨b0, ds0, he⟩, I => by
    unfold okMv at h
    unfold evMv evE at he
    have efz : fz .all (exV (.lit .non)) r = r := by unfold fz; rw [if_pos rfl]
    have he : (evMv (T.P.env n) ms (fz .all (exV (.lit .non)) r) st).bind (fun xs st => .ok (true && xs.1, D.non :: xs.2) st) = .ok (b0, ds0) st := he
    rw [efz] at he
    cases hm : evMv (T.P.env n) ms r st with
    | exc c dds st2 => rw [hm] at he; cases he
    | no => rw [hm] at he; cases he
    | ok xs st2 =>
      rw [hm] at he
      have he2 : R.ok (true && xs.1, D.non :: xs.2) st2 = .ok (b0, ds0) st := he
      have es2 : st2 = st := by injection he2
      subst st2
      refine wL.of (pa_cons pe_non pa_w (star_of rfl _ _)) ?_
      refine wL.mono (mv_ok h hr ⟨xs.1, xs.2, hm⟩ I) fun vs H' ⟨b, ds, α', os, e1, ex, ws, rn, ra⟩ => ?_
      rw [hm] at e1
      have e2 : xs = (b, ds) := by injection e1
      subst e2
      refine ⟨true && b, D.non :: ds, α', os, ?_, ex, ws, ?_, fun hb => ?_⟩
      · unfold evMv evE
        show (evMv (T.P.env n) ms (fz .all (exV (.lit .non)) r) st).bind _ = _
        rw [efz, hm]
        rfl
      · unfold RepL
        exact ⟨.non, vs, [], [], rfl, rfl, by unfold Rep; exact ⟨rfl, rfl⟩, rn⟩
      · obtain ⟨q1, q2, q3⟩ := ra (by simpa using hb)
        refine ⟨?_, q2, q3⟩
        unfold RepL
        exact ⟨.non, vs, [], os, rfl, rfl, by unfold Rep; exact ⟨rfl, rfl⟩, q1⟩
theorem mv_tot {env : Env} : ∀ {es : List Expr} {ms : Mvs}, okMv N sc es ms = true → ∀ (r : SRho) (st : Store), evMv env ms r st = .no ∨ ∃ b ds, evMv env ms r st = .ok (b, ds) st ∧ ds.length = es.length
  | [], .nil, _, r, st => .inr ⟨true, [], by unfold evMv; rfl, rfl⟩
  | .Name x p :: es, .v i ms, h, r, st => by
    unfold okMv at h
    simp only [Bool.and_eq_true] at h
    unfold evMv
    split
    · rename_i o d hi
      rcases mv_tot (env := env) h.2.2.2.2 (r.set i none) st with z | ⟨b, ds, z, l⟩
      · left; rw [z]; rfl
      · right
        rw [z]
        exact ⟨_, _, rfl, by rw [List.length_cons, List.length_cons, l]⟩
    · exact .inl rfl
  | .Constant (.int k) kk p :: es, .e (.lit (.int j)) ms, h, r, st => by
    unfold okMv at h
    simp only [Bool.and_eq_true] at h
    unfold evMv evE
    show (evMv env ms (fz .all (exV (.lit (.int j))) r) st).bind _ = .no ∨ ∃ b ds, (evMv env ms (fz .all (exV (.lit (.int j))) r) st).bind _ = _ ∧ _
    rcases mv_tot (env := env) h.2 (fz .all (exV (.lit (.int j))) r) st with z | ⟨b, ds, z, l⟩
    · left; rw [z]; rfl
    · right
      rw [z]
      exact ⟨_, _, rfl, by rw [List.length_cons, List.length_cons, l]⟩
  | .Constant .none kk p :: es, .e (.lit .non) ms, h, r, st => by
    unfold okMv at h
    unfold evMv evE
    show (evMv env ms (fz .all (exV (.lit .non)) r) st).bind _ = .no ∨ ∃ b ds, (evMv env ms (fz .all (exV (.lit .non)) r) st).bind _ = _ ∧ _
    rcases mv_tot (env := env) h (fz .all (exV (.lit .non)) r) st with z | ⟨b, ds, z, l⟩
    · left; rw [z]; rfl
    · right
      rw [z]
      exact ⟨_, _, rfl, by rw [List.length_cons, List.length_cons, l]⟩
/-- return (names, constants): the names' objects go with them -/
theorem impl_retT {es : List Expr} {k : Nat} {pt pos : Pos} {ms : Mvs} (hm : okMv N sc es ms = true) (hl : es.length ≤ 1000) : ImplS T N sc (.Return (some (.Tuple es k pt)) pos) (.retT ms) := by
  intro n X E α0 H0 G Bd r σ α H st OS D hfn I h
  unfold evS at h
  rcases mv_tot (env := T.P.env n) hm r st with z | ⟨b, ds, z, l⟩
  · rw [z] at h
    exact h.elim
  · rw [z] at h
    have h : SatS T n N sc X E α0 H0 G Bd D (.ok (.ret (if b then .all else flatO (.tup ds), .tup ds)) st) := h
    refine wS.of (ps_ret (pe_tup pa_w)) ?_
    refine wL.mono (mv_ok hm (fun _ _ h => h) ⟨b, ds, z⟩ I) fun vs H1 ⟨b', ds', α1, os, e1, ex, ws, rn, ra⟩ => ?_
    rw [z] at e1
    have e2 : (b, ds) = (b', ds') := by injection e1
    obtain ⟨rfl, rfl⟩ := Prod.mk.inj e2
    refine ⟨by rw [rn.len, l]; exact small_len hl, fun p hp => ?_⟩
    cases b with
    | true =>
      obtain ⟨q1, q2, q3⟩ := ra rfl
      refine h (.ref p) _ α1 os ⟨(I.ext.trans ex).trans (Ext.new hp), ws.new hp, ?_, fun a ha => ?_, q2⟩
      · show Rep X.K T.CT α1 (Gm G os) _ (.tup ds) .all (.ref p) os
        unfold Rep
        exact ⟨p, vs, rfl, .inl ⟨.inl upd_same, ws.out hp⟩, RepL.all _ (RepL.ext (G' := fun _ => False) (Ext.new hp) (fun a g _ => g) _ q1)⟩
      · obtain ⟨j, y, _, hj⟩ := q3 a ha
        exact I.fr j a hj
    | false =>
      have gf : GF G H1 := fun a ha => I.gf0 a ((I.ext.trans ex).fresh ha)
      exact h (.ref p) _ α1 [] ((Post.newT (st := st) ws gf hp rn).from (I.ext.trans ex) fun _ g => g)
end
end PD
/-! DMc: calls of methods that the text has -/
namespace PD
open PySem PySem.Spec PyProof.Rows L2
theorem eval_mc {o : Expr} {x : Str} {apos pos : Pos} {es : List Expr} (hb : attrC o = true) (hs : es.all noStar = true) (hl : es.length < 29) (hline : (apos.endLine == pos.line) = true) (env : PySem.Env) :
    ∃ pl : Sem Bool, eval (.Call (.Attribute o x apos) es [] pos) env = (do
      let ov ← eval o env
      standAt apos.atName
      let (f, first) ← holding [ov] (getMethod ov x pl)
      callWith pos f first (backTo pos (starEach es env)) (backToKw pos (keywordEach [] env))) := by
  refine ⟨plainOf o env, ?_⟩
  show (do
    let ov ← attributeBase o x env (eval o env)
    standAt apos.atName
    methodCall o x apos pos env ov (es.length + ([] : List Keyword).length) (backTo pos (starEach es env)) (backToKw pos (keywordEach [] env))) = _
  rw [attrC_by hb]
  have e : ∀ ov, methodCall o x apos pos env ov (es.length + ([] : List Keyword).length) (backTo pos (starEach es env)) (backToKw pos (keywordEach [] env)) = (do
      let (f, first) ← holding [ov] (getMethod ov x (plainOf o env))
      callWith pos f first (backTo pos (starEach es env)) (backToKw pos (keywordEach [] env))) := fun ov => by
    refine mcall_line ?_ hline
    have z := few_of (env := env) (pos := pos) hs hl
    unfold methodCallForm
    exact z
  simp only [e]
section
variable {T : Tab} {N : List Str} {sc : Scope}
theorem impl_mc {x : Str} {o e : Expr} {es : List Expr} {o' : Ex} {es' : Exs} {f c : Nat} {F : Fn} {apos pos : Pos} (hx : x = T.mname f) (hF : T.P.fns[f]? = some F) (hi : F.ini = none) (hm : T.P.mc f = some c) (hb : attrC o = true) (ho : ImplE T N sc o o')
    (hs : (e :: es).all noStar = true) (hl : (e :: es).length < 29) (hline : (apos.endLine == pos.line) = true) (ha : ImplL T N sc (e :: es) es') : ImplE T N sc (.Call (.Attribute o x apos) (e :: es) [] pos) (.mcall f o' es') :=
  impl_mcall hx hF hi hm hb ho hs ha fun env => eval_mc hb hs hl hline env
/-- o.m() -/
theorem impl_mc0 {x : Str} {o : Expr} {o' : Ex} {f c : Nat} {F : Fn} {apos pos : Pos} (hx : x = T.mname f) (hF : T.P.fns[f]? = some F) (hi : F.ini = none) (hm : T.P.mc f = some c) (hb : attrC o = true) (ho : ImplE T N sc o o') (hline : (apos.endLine == pos.line) = true) :
    ImplE T N sc (.Call (.Attribute o x apos) [] [] pos) (.mcall f o' .nil) := by
  intro n X W σ H r st α G Q S h pins s I
  unfold evE at h
  subst hx
  obtain ⟨a, m1, m2, m3, m4⟩ := S.ok.F.meth f F c hF hi hm
  obtain ⟨pl, ht⟩ := eval_mc (x := T.mname f) (apos := apos) (pos := pos) (es := []) hb rfl (by simp) hline X.env
  refine PySem.W.methodCall_KW (pl := pl) (thn (ho n X W σ H r st α G _ S (h.bind (Ext.refl _ _) fun _ g => g) pins s I) fun u s1 ⟨y, H1, I1, ru, v, st1, α1, os1, p1, h1⟩ => ?_) ht
  split at h1
  · rename_i hin
    have S1 := S.keep p1.ext p1.ws
    have rx := p1.shared S.gf
    have hv : ∃ fs, v.2 = .ins c fs := by
      have hin' : insOf (T.P.mc f) v.2 = true := hin
      rw [hm] at hin'
      cases hv : v.2 with
      | ins c' fs =>
        rw [hv] at hin'
        have : c = c' := by simpa [insOf] using hin'
        subst this
        exact ⟨fs, rfl⟩
      | _ => rw [hv] at hin'; exact (nomatch hin')
    obtain ⟨fs, hv⟩ := hv
    have rx0 := rx
    rw [hv] at rx
    obtain ⟨b, dx, us, rfl, hi2, rs, _⟩ := ins_of rx
    unfold InsAt at hi2
    rw [if_pos m2] at hi2
    obtain ⟨ws, hst, _⟩ := hi2
    obtain rfl : u = .ref b := ru
    refine SlX.getmethsl_ok I1 hst m1 m3 ?_
    have ev : evEs (T.P.env n) .nil r st1 = .ok (true, []) st1 := by unfold evEs; rfl
    rw [ev] at h1
    have h1 : SatE X.K T.CT W σ α H G Q (run T.P n f [v.2] st1) := h1
    exact PySem.W.callWith_K0 (first := [.ref b]) I1.kIn m3.kp (run_fnW (us := [.ref b]) (vs := [.ref b]) m4 (S.ok.room.mono (by omega)) S.ok.gd I1.env0 S.tk I1 (.cons rfl .nil) ⟨[v.2], α1, G, st1, by unfold RepL; exact ⟨_, _, [], [], rfl, rfl, rx0, repL_nil⟩, p1.ws, S1.gf, (h1.from p1.ext fun _ g => g).toC⟩)
  · exact h1.elim
end
end PD
/-! DChk: a checker of a def's text against its mini-AST -/
namespace PD
open PySem PySem.Spec PyProof.Rows L2
def glC (sc : Scope) (x : Str) : Bool := decide (sc.names.lookup x = some .globalImplicit)
def litC : Const → D → Bool
  | .int i, .int j => decide (i = j)
  | .bool i, .bl j => decide (i = j)
  | .none, .non => true
  | .str x, .str s => decide (x.cps.toList = s)
  | _, _ => false
theorem litC_by {T : Tab} {N : List Str} {sc : Scope} {c : Const} {d : D} {j : Nat} {pos : Pos} (h : litC c d = true) : ImplE T N sc (.Constant c j pos) (.lit d) := by
  unfold litC at h
  split at h
  · obtain rfl := of_decide_eq_true h; exact impl_lit_int
  · obtain rfl := of_decide_eq_true h; exact impl_lit_bl
  · exact impl_lit_non
  · exact impl_lit_str (of_decide_eq_true h)
  · cases h
def bopC (o : Operator) (b : Bop) : Bool := match o, b with
  | .Add, .add => true
  | .Sub, .sub => true
  | .Mult, .mul => true
  | .FloorDiv, .fdiv => true
  | .Mod, .mod => true
  | .Pow, .pow => true
  | _, _ => false
theorem bopC_by {o : Operator} {b : Bop} (h : bopC o b = true) : o = pyBop b := by
  cases o <;> cases b <;> first | rfl | cases h
def dbg (x : Str) : Bool := !(x == ("__debug__" : Str))
theorem dbg_by {x : Str} (h : dbg x = true) : (x == ("__debug__" : Str)) = false := by
  unfold dbg at h
  simpa using h
def cld (x : Str) : Bool := !(x == ("__classdict__" : Str))
theorem cld_by {x : Str} (h : cld x = true) : (x == ("__classdict__" : Str)) = false := by
  unfold cld at h
  simpa using h
def copC (o : CmpOp) (c : Cop) : Bool := match o, c with
  | .Eq, .eq => true
  | .NotEq, .ne => true
  | .Lt, .lt => true
  | .LtE, .le => true
  | .Gt, .gt => true
  | .GtE, .ge => true
  | .Is, .is => true
  | .IsNot, .isnot => true
  | .In, .inn => true
  | .NotIn, .notin => true
  | _, _ => false
theorem copC_by {o : CmpOp} {c : Cop} (h : copC o c = true) : o = pyCop c := by
  cases o <;> cases c <;> first | rfl | cases h
def Exs.isNil : Exs → Bool
  | .nil => true
  | _ => false
/-- the target of a call -/
def calC (T : Tab) (sc : Scope) (x : Str) (f : Nat) (emp : Bool) : Bool := decide (x = T.fname f) && (glC sc x && (dbg x && (match T.P.fns[f]? with
  | some F => (match F.ini with
    | none => decide (T.P.mc f = none)
    | some _ => !emp)
  | none => false)))
/-- the target of a method's call -/
def mcC (T : Tab) (f : Nat) : Bool := match T.P.fns[f]?, T.P.mc f with
  | some F, some _ => decide (F.ini = none)
  | _, _ => false
def ownOf (N : List Str) (is : List Nat) : List (Str × Nat) := is.map fun i => ((N[i]?).getD "", i)
theorem ownOf_snd (N : List Str) (is : List Nat) : (ownOf N is).map (·.2) = is := by
  unfold ownOf
  rw [List.map_map]
  exact List.map_id _
/-- the side conditions of a comprehension with two walks -/
def lc2C (N : List Str) (sc scope : Scope) (tg tg1 iter iter1 : Expr) (tg' tg1' : Tg) (it1' : It) : Bool := blkC N sc scope (ownOf N (slotsOf tg' ++ slotsOf tg1')) && (okTg (locC sc scope) N tg tg' && (okTg (locC sc scope) N tg1 tg1' && ((slotsOf tg').all (fun i => decide (i < N.length)) && ((slotsOf tg1').all (fun i => decide (i < N.length)) && ((itV it1').all (fun i => !(slotsOf tg1').contains i) && (notSet iter && notSet iter1))))))
section
variable (T : Tab) (N : List Str)
mutual
def okE : Nat → Scope → Expr → Ex → Bool
  | 0, _, _, _ => false
  | k + 1, sc, e, e' => match e' with
    | .box x => okE k sc e x
    | .lit d => (match e with | .Constant c _ _ => litC c d | _ => false)
    | .var i => (match e with | .Name x _ => decide (N[i]? = some x) && (vis sc x && (dbg x && cld x)) | _ => false)
    | .glob g => (match e with | .Name x _ => decide (x = T.gname g) && (glC sc x && dbg x) | _ => false)
    | .bin op a' b' => (match e with | .BinOp a o b _ => bopC o op && (okE k sc a a' && okE k sc b b') | _ => false)
    | .neg a' => (match e with | .UnaryOp .USub a _ => okE k sc a a' | _ => false)
    | .notE a' => (match e with | .UnaryOp .Not a _ => okE k sc a a' | _ => false)
    | .cmp op a' b' => (match e with | .Compare a [o] [b] _ => copC o op && (!behindInMarks o b && (okE k sc a a' && okE k sc b b')) | _ => false)
    | .chain op op2 a' b' c' => (match e with | .Compare a [o, o2] [b, c] _ => copC o op && (copC o2 op2 && (!lastMarks [o, o2] [b, c] && (okE k sc a a' && (okE k sc b b' && okE k sc c c')))) | _ => false)
    | .andE a' b' => (match e with
      | .BoolOp .And [a, b] _ => okE k sc a a' && okE k sc b b'
      | .BoolOp .And (a :: b :: c :: es) p => okE k sc a a' && okE k sc (.BoolOp .And (b :: c :: es) p) b'
      | _ => false)
    | .orE a' b' => (match e with
      | .BoolOp .Or [a, b] _ => okE k sc a a' && okE k sc b b'
      | .BoolOp .Or (a :: b :: c :: es) p => okE k sc a a' && okE k sc (.BoolOp .Or (b :: c :: es) p) b'
      | _ => false)
    | .ifE t' a' b' => (match e with | .IfExp t a b _ => okT k sc t t' && (okE k sc a a' && okE k sc b b') | _ => false)
    | .lst es' => (match e with | .List es _ => okL k sc es es' && decide (es'.len ≤ 1000) | _ => false)
    | .tup es' => (match e with | .Tuple es _ _ => okL k sc es es' && decide (es'.len ≤ 1000) | _ => false)
    | .sub a' b' => (match e with | .Subscript a b _ => plainIx b && (okE k sc a a' && okE k sc b b') | _ => false)
    | .slc a' l' h' => (match e with | .Subscript a (.Slice lo hi none _) _ => okE k sc a a' && (okO k sc lo l' && okO k sc hi h') | _ => false)
    | .rev a' => (match e with | .Subscript a (.Slice none none (some (.UnaryOp .USub (.Constant (.int i) _ _) _)) _) _ => decide (i = 1) && okE k sc a a' | _ => false)
    | .attr o' c j => (match e with | .Attribute o f _ => attrC o && (T.P.kc c && (decide ((T.CT c).names[j]? = some f) && okE k sc o o')) | _ => false)
    | .call f es' => (match e with
      | .Call (.Name x _) es [] _ => calC T sc x f es.isEmpty && (es.all noStar && okL k sc es es')
      | _ => false)
    | .isi a' ts => (match e with
      | .Call (.Name x _) [a, .Name y _] [] _ => decide (x = ("isinstance" : Str)) && (glC sc x && (noStar a && (okE k sc a a' && (match ts with
        | [t] => decide (y = tyNm T t) && ((match t with | .cls c => T.P.kc c | _ => true) && (glC sc y && dbg y))
        | _ => false))))
      | .Call (.Name x _) [a, .Tuple es _ _] [] _ => decide (x = ("isinstance" : Str)) && (glC sc x && (noStar a && (okE k sc a a' && (tysC T sc es ts && decide (ts.length ≤ 1000)))))
      | _ => false)
    | .bi b es' => (match e with
      | .Call (.Name x _) (a :: es) [] _ => decide (x = biN b) && (glC sc x && ((a :: es).all noStar && okL k sc (a :: es) es'))
      | _ => false)
    | .meth m o' es' => (match e with
      | .Call (.Attribute o x ap) es [] cp => decide (x = meN m) && ((ap.endLine == cp.line) && (es.all noStar && (decide (es.length < 29) && ((!es.isEmpty || es'.isNil) && (okL k sc es es' && (match o' with
        | .glob g => decide (m = .indexT) && (match o with | .Name y _ => decide (y = T.gname g) && (glC sc y && dbg y) | _ => false)
        | _ => decide (m ≠ .indexT) && (attrC o && okE k sc o o')))))))
      | _ => false)
    | .lc elt' tg' it' cond' => (match e with
      | .ListComp elt [⟨tg, iter, ifs, 0⟩] scope _ => blkC N sc scope (ownOf N (slotsOf tg')) && (okTg (locC sc scope) N tg tg' && ((slotsOf tg').all (fun i => decide (i < N.length)) && (notSet iter && (okI k sc tg iter it' && (okTs k (relS scope sc) ifs cond' && okE k (relS scope sc) elt elt')))))
      | _ => false)
    | .lc2 elt' tg' it' tg1' it1' cond' => (match e with
      | .ListComp elt [⟨tg, iter, [], 0⟩, ⟨tg1, iter1, ifs1, 0⟩] scope _ => lc2C N sc scope tg tg1 iter iter1 tg' tg1' it1' && (okI k sc tg iter it' && (okI k (relS scope sc) tg1 iter1 it1' && (okTs k (relS scope sc) ifs1 cond' && okE k (relS scope sc) elt elt')))
      | _ => false)
    | .dic .nil .nil => (match e with | .Dict [] [] _ => true | _ => false)
    | .mcall f o' es' => (match e with
      | .Call (.Attribute o x ap) es [] cp => decide (x = T.mname f) && (mcC T f && (attrC o && ((ap.endLine == cp.line) && (okE k sc o o' && (match es with
        | [] => es'.isNil
        | es => es.all noStar && (decide (es.length < 29) && okL k sc es es'))))))
      | _ => false)
    | .ls a' => (match e with
      | .Call (.Name x _) [.Call (.Name y _) [a] [] _] [] _ => decide (x = ("len" : Str)) && (decide (y = ("set" : Str)) && (glC sc ("len" : Str) && (glC sc ("set" : Str) && (noStar a && okE k sc a a'))))
      | _ => false)
    | .sv o' => (match e with
      | .Call (.Name x _) [.Call (.Attribute o y ap) [] [] mp] [] _ => decide (x = ("sorted" : Str)) && (glC sc ("sorted" : Str) && (decide (y = ("values" : Str)) && (attrC o && ((ap.endLine == mp.line) && okE k sc o o'))))
      | _ => false)
    | _ => false
def okT : Nat → Scope → Expr → Ex → Bool
  | 0, _, _, _ => false
  | k + 1, sc, e, e' => match e with
    | .UnaryOp .Not a _ => (match e' with | .notE a' => okT k sc a a' | _ => false)
    | .Compare a [o] [b] _ => (match e' with | .cmp op a' b' => copC o op && (!behindInMarks o b && (okE k sc a a' && okE k sc b b')) | _ => false)
    | .Compare a [o, o2] [b, c] _ => (match e' with | .chain op op2 a' b' c' => copC o op && (copC o2 op2 && (!lastMarks [o, o2] [b, c] && (okE k sc a a' && (okE k sc b b' && okE k sc c c')))) | _ => false)
    | .BoolOp _ _ _ => okW k sc e e'
    | e => plainTest e && okE k sc e e'
def okW : Nat → Scope → Expr → Ex → Bool
  | 0, _, _, _ => false
  | k + 1, sc, e, e' => match e' with
    | .andE a' b' => (match e with
      | .BoolOp .And [a, b] _ => okT k sc a a' && okT k sc b b'
      | .BoolOp .And (a :: b :: c :: es) p => okT k sc a a' && okW k sc (.BoolOp .And (b :: c :: es) p) b'
      | _ => false)
    | .orE a' b' => (match e with
      | .BoolOp .Or [a, b] _ => okT k sc a a' && okT k sc b b'
      | .BoolOp .Or (a :: b :: c :: es) p => okT k sc a a' && okW k sc (.BoolOp .Or (b :: c :: es) p) b'
      | _ => false)
    | _ => false
def okL : Nat → Scope → List Expr → Exs → Bool
  | 0, _, _, _ => false
  | k + 1, sc, es, es' => match es, es' with
    | [], .nil => true
    | e :: es, .cons e' es' => noStar e && (okE k sc e e' && okL k sc es es')
    | _, _ => false
def okO : Nat → Scope → Option Expr → Ex → Bool
  | 0, _, _, _ => false
  | k + 1, sc, o, e' => match o with
    | none => (match e' with | .lit .non => true | _ => false)
    | some e => okE k sc e e'
def okTs : Nat → Scope → List Expr → Ex → Bool
  | 0, _, _, _ => false
  | k + 1, sc, es, e' => match es with
    | [] => (match e' with | .lit (.bl true) => true | _ => false)
    | [c] => okT k sc c e'
    | _ => false
def okI : Nat → Scope → Expr → Expr → It → Bool
  | 0, _, _, _, _ => false
  | k + 1, sc, tg, e, i' => match i' with
    | .ex e' => okE k sc e e'
    | .rng1 a' => (match e with | .Call (.Name x _) [a] [] _ => decide (x = ("range" : Str)) && (glC sc x && (noStar a && okE k sc a a')) | _ => false)
    | .rng2 a' b' => (match e with | .Call (.Name x _) [a, b] [] _ => decide (x = ("range" : Str)) && (glC sc x && (noStar a && (noStar b && (okE k sc a a' && okE k sc b b')))) | _ => false)
    | .enum a' => (match tg, e with | .Tuple _ _ _, .Call (.Name x _) [a] [] _ => decide (x = ("enumerate" : Str)) && (glC sc x && (noStar a && okE k sc a a')) | _, _ => false)
    | _ => false
end
end
end PD
/-! DChs: the checker is right -/
namespace PD
open PySem PySem.Spec PyProof.Rows L2
structure Snd (T : Tab) (N : List Str) (k : Nat) : Prop where
  e : ∀ sc e e', okE T N k sc e e' = true → ImplE T N sc e e'
  t : ∀ sc e e', okT T N k sc e e' = true → ImplT T N sc e e'
  w : ∀ sc e e', okW T N k sc e e' = true → ImplW T N sc e e'
  l : ∀ sc e e', okL T N k sc e e' = true → ImplL T N sc e e'
  o : ∀ sc e e', okO T N k sc e e' = true → ImplO T N sc e e'
  ts : ∀ sc e e', okTs T N k sc e e' = true → ImplTs T N sc e e'
  i : ∀ sc tg e i', okI T N k sc tg e i' = true → ImplI T N sc tg e i'
section
variable {T : Tab} {N : List Str} {k : Nat}
theorem not_by {b : Bool} (h : (!b) = true) : b = false := by cases b <;> first | rfl | cases h
theorem snd_l (S : Snd T N k) : ∀ sc e e', okL T N (k + 1) sc e e' = true → ImplL T N sc e e' := by
  intro sc es es' h
  unfold okL at h
  split at h
  · exact impl_nil
  · simp only [Bool.and_eq_true] at h
    exact impl_cons h.1 (S.e _ _ _ h.2.1) (S.l _ _ _ h.2.2)
  · cases h
theorem snd_o (S : Snd T N k) : ∀ sc e e', okO T N (k + 1) sc e e' = true → ImplO T N sc e e' := by
  intro sc es es' h
  unfold okO at h
  split at h
  · split at h
    · exact impl_partN
    · cases h
  · exact impl_part (S.e _ _ _ h)
theorem snd_ts (S : Snd T N k) : ∀ sc e e', okTs T N (k + 1) sc e e' = true → ImplTs T N sc e e' := by
  intro sc es es' h
  unfold okTs at h
  split at h
  · split at h
    · rfl
    · cases h
  · exact S.t _ _ _ h
  · cases h
theorem glC_by {sc : Scope} {x : Str} (h : glC sc x = true) : sc.names.lookup x = some .globalImplicit := of_decide_eq_true h
theorem snd_i (S : Snd T N k) : ∀ sc tg e i', okI T N (k + 1) sc tg e i' = true → ImplI T N sc tg e i' := by
  intro sc tg e i' h
  unfold okI at h
  split at h
  · exact impl_itE (S.e _ _ _ h)
  · split at h
    · simp only [Bool.and_eq_true] at h
      obtain ⟨hx, hg, hs, ha⟩ := h
      obtain rfl := of_decide_eq_true hx
      exact impl_rng1 (S.e _ _ _ ha) (glC_by hg) hs
    · cases h
  · split at h
    · simp only [Bool.and_eq_true] at h
      obtain ⟨hx, hg, hs, hs2, ha, hb⟩ := h
      obtain rfl := of_decide_eq_true hx
      exact impl_rng2 (S.e _ _ _ ha) (S.e _ _ _ hb) (glC_by hg) hs hs2
    · cases h
  · split at h
    · simp only [Bool.and_eq_true] at h
      obtain ⟨hx, hg, hs, ha⟩ := h
      obtain rfl := of_decide_eq_true hx
      exact impl_enum (S.e _ _ _ ha) (glC_by hg) hs
    · cases h
  · cases h
theorem snd_w (S : Snd T N k) : ∀ sc e e', okW T N (k + 1) sc e e' = true → ImplW T N sc e e' := by
  intro sc e e' h
  unfold okW at h
  split at h
  · split at h
    · simp only [Bool.and_eq_true] at h
      exact impl_andW (S.t _ _ _ h.1) (impl_oneAW (S.t _ _ _ h.2))
    · simp only [Bool.and_eq_true] at h
      exact impl_andW (S.t _ _ _ h.1) (S.w _ _ _ h.2)
    · cases h
  · split at h
    · simp only [Bool.and_eq_true] at h
      exact impl_orW (S.t _ _ _ h.1) (impl_oneOW (S.t _ _ _ h.2))
    · simp only [Bool.and_eq_true] at h
      exact impl_orW (S.t _ _ _ h.1) (S.w _ _ _ h.2)
    · cases h
  · cases h
theorem snd_t (S : Snd T N k) : ∀ sc e e', okT T N (k + 1) sc e e' = true → ImplT T N sc e e' := by
  intro sc e e' h
  unfold okT at h
  split at h
  · split at h
    · exact impl_notT (S.t _ _ _ h)
    · cases h
  · split at h
    · simp only [Bool.and_eq_true] at h
      obtain ⟨h1, h2, h3, h4⟩ := h
      obtain rfl := copC_by h1
      exact impl_cmpT (S.e _ _ _ h3) (S.e _ _ _ h4) (not_by h2)
    · cases h
  · split at h
    · simp only [Bool.and_eq_true] at h
      obtain ⟨h1, h2, h3, h4, h5, h6⟩ := h
      obtain rfl := copC_by h1
      obtain rfl := copC_by h2
      exact impl_chainT (S.e _ _ _ h4) (S.e _ _ _ h5) (S.e _ _ _ h6) (not_by h3)
    · cases h
  · exact (S.w _ _ _ h).t
  · simp only [Bool.and_eq_true] at h
    exact (S.e _ _ _ h.2).test h.1
end
end PD
/-! DCht: the checker is right, expressions -/
namespace PD
open PySem PySem.Spec PyProof.Rows L2
section
variable {T : Tab} {N : List Str} {k : Nat}
theorem okL_nil {sc : Scope} {es' : Exs} (h : okL T N k sc [] es' = true) : es' = .nil := by
  cases k with
  | zero => unfold okL at h; cases h
  | succ k =>
    unfold okL at h
    cases es' with
    | nil => rfl
    | cons a b => cases h
theorem mc_by {sc : Scope} {es : List Expr} {es' : Exs} (h : (match es with
        | [] => es'.isNil
        | es => es.all noStar && (decide (es.length < 29) && okL T N k sc es es')) = true) : (es = [] ∧ es' = .nil) ∨ ∃ a r, es = a :: r ∧ (a :: r).all noStar = true ∧ (a :: r).length < 29 ∧ okL T N k sc (a :: r) es' = true := by
  cases es with
  | nil =>
    cases es' with
    | nil => exact .inl ⟨rfl, rfl⟩
    | cons a b => cases h
  | cons a r =>
    have h : ((a :: r).all noStar && (decide ((a :: r).length < 29) && okL T N k sc (a :: r) es')) = true := h
    simp only [Bool.and_eq_true] at h
    exact .inr ⟨a, r, rfl, by simpa using h.1, of_decide_eq_true h.2.1, h.2.2⟩
theorem snd_e (S : Snd T N k) : ∀ sc e e', okE T N (k + 1) sc e e' = true → ImplE T N sc e e' := by
  intro sc e e' h
  unfold okE at h
  split at h
  · exact impl_box (S.e _ _ _ h)
  · split at h
    · exact litC_by h
    · cases h
  · split at h
    · simp only [Bool.and_eq_true] at h
      obtain ⟨h1, h2, h3, h4⟩ := h
      exact impl_var (of_decide_eq_true h1) (vis_by h2) (dbg_by h3) (cld_by h4)
    · cases h
  · split at h
    · simp only [Bool.and_eq_true] at h
      obtain ⟨h1, h2, h3⟩ := h
      exact impl_glob (of_decide_eq_true h1) (glC_by h2) (dbg_by h3)
    · cases h
  · split at h
    · simp only [Bool.and_eq_true] at h
      obtain ⟨h1, h2, h3⟩ := h
      obtain rfl := bopC_by h1
      exact impl_bin (S.e _ _ _ h2) (S.e _ _ _ h3)
    · cases h
  · split at h
    · exact impl_neg (S.e _ _ _ h)
    · cases h
  · split at h
    · exact impl_not (S.e _ _ _ h)
    · cases h
  · split at h
    · simp only [Bool.and_eq_true] at h
      obtain ⟨h1, h2, h3, h4⟩ := h
      obtain rfl := copC_by h1
      exact impl_cmp (S.e _ _ _ h3) (S.e _ _ _ h4) (not_by h2)
    · cases h
  · split at h
    · simp only [Bool.and_eq_true] at h
      obtain ⟨h1, h2, h3, h4, h5, h6⟩ := h
      obtain rfl := copC_by h1
      obtain rfl := copC_by h2
      exact impl_chain (S.e _ _ _ h4) (S.e _ _ _ h5) (S.e _ _ _ h6) (not_by h3)
    · cases h
  · split at h
    · simp only [Bool.and_eq_true] at h
      exact impl_and (S.e _ _ _ h.1) (impl_one (S.e _ _ _ h.2))
    · simp only [Bool.and_eq_true] at h
      exact impl_and (S.e _ _ _ h.1) (S.e _ _ _ h.2)
    · cases h
  · split at h
    · simp only [Bool.and_eq_true] at h
      exact impl_or (S.e _ _ _ h.1) (impl_one (S.e _ _ _ h.2))
    · simp only [Bool.and_eq_true] at h
      exact impl_or (S.e _ _ _ h.1) (S.e _ _ _ h.2)
    · cases h
  · split at h
    · simp only [Bool.and_eq_true] at h
      exact impl_if (S.t _ _ _ h.1) (S.e _ _ _ h.2.1) (S.e _ _ _ h.2.2)
    · cases h
  · split at h
    · simp only [Bool.and_eq_true] at h
      exact impl_lst (S.l _ _ _ h.1) (of_decide_eq_true h.2)
    · cases h
  · split at h
    · simp only [Bool.and_eq_true] at h
      exact impl_tup (S.l _ _ _ h.1) (of_decide_eq_true h.2)
    · cases h
  · split at h
    · simp only [Bool.and_eq_true] at h
      exact impl_sub (S.e _ _ _ h.2.1) (S.e _ _ _ h.2.2) h.1
    · cases h
  · split at h
    · simp only [Bool.and_eq_true] at h
      exact impl_slc (S.e _ _ _ h.1) (S.o _ _ _ h.2.1) (S.o _ _ _ h.2.2)
    · cases h
  · split at h
    · simp only [Bool.and_eq_true] at h
      obtain ⟨h1, h2⟩ := h
      obtain rfl := of_decide_eq_true h1
      exact impl_rev (S.e _ _ _ h2)
    · cases h
  · split at h
    · simp only [Bool.and_eq_true] at h
      obtain ⟨h1, h2, h3, h4⟩ := h
      exact impl_attr (S.e _ _ _ h4) h1 h2 (of_decide_eq_true h3)
    · cases h
  · split at h
    · simp only [Bool.and_eq_true] at h
      obtain ⟨hc, hs, hl⟩ := h
      rename_i es _
      unfold calC at hc
      simp only [Bool.and_eq_true] at hc
      obtain ⟨hx, hg, hd, hf⟩ := hc
      split at hf
      · rename_i F hF
        split at hf
        · rename_i hi
          cases es with
          | nil =>
            obtain rfl := okL_nil hl
            exact impl_call0 (of_decide_eq_true hx) hF hi (of_decide_eq_true hf) (glC_by hg) (dbg_by hd)
          | cons a es => exact impl_call (of_decide_eq_true hx) hF hi (of_decide_eq_true hf) (glC_by hg) (dbg_by hd) hs (S.l _ _ _ hl)
        · rename_i c hi
          cases es with
          | nil => cases hf
          | cons a es => exact impl_make (of_decide_eq_true hx) hF hi (glC_by hg) (dbg_by hd) hs (S.l _ _ _ hl)
      · cases hf
    · cases h
  · split at h
    · simp only [Bool.and_eq_true] at h
      obtain ⟨h1, h2, h3, h4, h5⟩ := h
      obtain rfl := of_decide_eq_true h1
      split at h5
      · simp only [Bool.and_eq_true] at h5
        obtain ⟨h6, h7, h8, h9⟩ := h5
        rename_i t
        exact impl_isi1 (S.e _ _ _ h4) h3 (glC_by h2) (of_decide_eq_true h6) (fun c hc => by subst hc; exact h7) (glC_by h8) (dbg_by h9)
      · cases h5
    · simp only [Bool.and_eq_true] at h
      obtain ⟨h1, h2, h3, h4, h5, h6⟩ := h
      obtain rfl := of_decide_eq_true h1
      exact impl_isiT (S.e _ _ _ h4) h3 (glC_by h2) h5 (of_decide_eq_true h6)
    · cases h
  · split at h
    · simp only [Bool.and_eq_true] at h
      obtain ⟨h1, h2, h3, h4⟩ := h
      exact impl_bi (of_decide_eq_true h1) (glC_by h2) (by simpa using h3) (S.l _ _ _ h4)
    · cases h
  · split at h
    · simp only [Bool.and_eq_true] at h
      obtain ⟨h1, h2, h3, h4, h5, h6, h7⟩ := h
      have h0 : ∀ {es : List Expr} {es' : Exs}, (!es.isEmpty || es'.isNil) = true → es = [] → es' = .nil := fun {es es'} q z => by
        subst z
        cases es' with
        | nil => rfl
        | cons a b => cases q
      split at h7
      · simp only [Bool.and_eq_true] at h7
        obtain ⟨h8, h9⟩ := h7
        obtain rfl := of_decide_eq_true h8
        split at h9
        · simp only [Bool.and_eq_true] at h9
          obtain ⟨h10, h11, h12⟩ := h9
          exact impl_methG (of_decide_eq_true h1) (of_decide_eq_true h10) (glC_by h11) (dbg_by h12) h2 h3 (of_decide_eq_true h4) (h0 h5) (S.l _ _ _ h6)
        · cases h9
      · simp only [Bool.and_eq_true] at h7
        obtain ⟨h8, h9, h10⟩ := h7
        exact impl_meth (of_decide_eq_true h1) (of_decide_eq_true h8) (S.e _ _ _ h10) h9 h2 h3 (of_decide_eq_true h4) (h0 h5) (S.l _ _ _ h6)
    · cases h
  · split at h
    · simp only [Bool.and_eq_true] at h
      obtain ⟨h1, h2, h3, h4, h5, h6, h7⟩ := h
      exact impl_lc h1 (ownOf_snd _ _) h2 h3 h4 (S.i _ _ _ _ h5) (S.ts _ _ _ h6) (S.e _ _ _ h7)
    · cases h
  · split at h
    · simp only [Bool.and_eq_true] at h
      obtain ⟨hc, h5, h51, h6, h7⟩ := h
      unfold lc2C at hc
      simp only [Bool.and_eq_true] at hc
      obtain ⟨h1, h2, h21, h3, h31, hdj, h4, h41⟩ := hc
      exact impl_lc2 h1 (ownOf_snd _ _) h2 h21 h3 h31 hdj h4 h41 (S.i _ _ _ _ h5) (S.i _ _ _ _ h51) (S.ts _ _ _ h6) (S.e _ _ _ h7)
    · cases h
  · split at h
    · exact impl_dic0
    · cases h
  · split at h
    · simp only [Bool.and_eq_true] at h
      obtain ⟨h1, h2, h3, h4, h5, h6⟩ := h
      unfold mcC at h2
      split at h2
      · rename_i F c hF hm
        rcases mc_by h6 with ⟨rfl, rfl⟩ | ⟨a, r, rfl, h7, h8, h9⟩
        · exact impl_mc0 (of_decide_eq_true h1) hF (of_decide_eq_true h2) hm h3 (S.e _ _ _ h5) h4
        · exact impl_mc (of_decide_eq_true h1) hF (of_decide_eq_true h2) hm h3 (S.e _ _ _ h5) h7 h8 h4 (S.l _ _ _ h9)
      · cases h2
    · cases h
  · split at h
    · simp only [Bool.and_eq_true] at h
      obtain ⟨h1, h2, h3, h4, h5, h6⟩ := h
      exact impl_ls (of_decide_eq_true h1) (of_decide_eq_true h2) (glC_by h3) (glC_by h4) (S.e _ _ _ h6) h5
    · cases h
  · split at h
    · simp only [Bool.and_eq_true] at h
      obtain ⟨h1, h2, h3, h4, h5, h6⟩ := h
      obtain rfl := of_decide_eq_true h3
      exact impl_sv (of_decide_eq_true h1) (glC_by h2) (S.e _ _ _ h6) h4 h5
    · cases h
  · cases h
theorem snd : ∀ k, Snd T N k
  | 0 => ⟨fun _ _ _ h => (by unfold okE at h; cases h), fun _ _ _ h => (by unfold okT at h; cases h), fun _ _ _ h => (by unfold okW at h; cases h), fun _ _ _ h => (by unfold okL at h; cases h), fun _ _ _ h => (by unfold okO at h; cases h), fun _ _ _ h => (by unfold okTs at h; cases h), fun _ _ _ _ h => (by unfold okI at h; cases h)⟩
  | k + 1 => ⟨snd_e (snd k), snd_t (snd k), snd_w (snd k), snd_l (snd k), snd_o (snd k), snd_ts (snd k), snd_i (snd k)⟩
end
end PD
/-! DChu: the checker of statements -/
namespace PD
open PySem PySem.Spec PyProof.Rows L2
section
variable (T : Tab) (N : List Str)
def varC (sc : Scope) (i : Nat) (x : Str) : Bool := decide (N[i]? = some x) && (vis sc x && (dbg x && cld x))
def cell2 (sc : Scope) : List Expr → Expr → Bool
  | [.Name x _, .Name y _], .Tuple [_, _] _ _ => decide (sc.names.lookup x = some .cell ∨ sc.names.lookup y = some .cell)
  | _, _ => false
def loc1 (sc : Scope) (i : Nat) (x : Str) : Bool := decide (N[i]? = some x) && (decide (x ≠ ("self" : Str)) && decide (sc.names.lookup x = some .local))
mutual
def okS : Nat → Scope → Stmt → Sm → Bool
  | 0, _, _, _ => false
  | k + 1, sc, s, s' => match s' with
    | .never => true
    | .pass => (match s with | .Pass _ => true | _ => false)
    | .brk => (match s with | .Break _ => true | _ => false)
    | .cnt => (match s with | .Continue _ => true | _ => false)
    | .exp e' => (match s with | .Expr e _ => swF e && okE T N k sc e e' | _ => false)
    | .retN => (match s with | .Return none _ => true | _ => false)
    | .ret e' => (match s with | .Return (some e) _ => okE T N k sc e e' | _ => false)
    | .retV i => (match s with | .Return (some (.Name x _)) _ => varC N sc i x | _ => false)
    | .ifS c' a' b' => (match s with | .If c a b _ => okT T N k sc c c' && (okSs k sc a a' && okSs k sc b b') | _ => false)
    | .forS tg' it' b' => (match s with | .For tg iter body [] _ => okTg (locF sc) N tg tg' && ((slotsOf tg').all (fun i => decide (i < N.length ∧ N[i]? ≠ some ("self" : Str))) && (notSet iter && (okI T N k sc tg iter it' && okSs k sc body b'))) | _ => false)
    | .whileS c' b' => (match s with | .While c body [] _ => okT T N k sc c c' && okSs k sc body b' | _ => false)
    | .app i e' => (match s with | .Expr (.Call (.Attribute (.Name x _) f ap) [e] [] cp) _ => decide (f = ("append" : Str)) && (varC N sc i x && (noStar e && ((ap.endLine == cp.line) && okE T N k sc e e'))) | _ => false)
    | .setI i k' e' => (match s with | .Assign [.Subscript (.Name x _) j _] e _ => varC N sc i x && (plainIx j && (okE T N k sc j k' && okE T N k sc e e')) | _ => false)
    | .setH i k' e' => (match s with | .Assign [.Subscript (.Name x _) j _] e _ => varC N sc i x && (plainIx j && (okE T N k sc j k' && okE T N k sc e e')) | _ => false)
    | .setD i k' e' => (match s with | .Assign [.Subscript (.Name x _) j _] e _ => varC N sc i x && (plainIx j && (okE T N k sc j k' && okE T N k sc e e')) | _ => false)
    | .clr i => (match s with | .Expr (.Call (.Attribute (.Name x _) f ap) [] [] cp) _ => decide (f = ("clear" : Str)) && (varC N sc i x && (ap.endLine == cp.line)) | _ => false)
    | .asgT is e' => (match s with | .Assign [.Tuple tg kt pt] e _ => okTg (locF sc) N (.Tuple tg kt pt) (.tp is) && (is.all (fun i => decide (i < N.length ∧ N[i]? ≠ some ("self" : Str))) && (swF e && ((notTup e || cell2 sc tg e) && okE T N k sc e e'))) | _ => false)
    | .retT ms => (match s with | .Return (some (.Tuple es _ _)) _ => okMv N sc es ms && decide (es.length ≤ 1000) | _ => false)
    | .fld c j e' => (match s with | .Assign [.Attribute (.Name x _) f _] e _ => varC N sc 0 x && (decide ((T.CT c).names[j]? = some f) && (T.P.kc c && okE T N k sc e e')) | _ => false)
    | .par is es' => (match s with
      | .Assign [.Tuple [.Name x px, .Name y py] _ _] (.Tuple [a, b] _ _) _ => (match is with
        | [i, j] => decide (i ≠ j) && (loc1 N sc i x && (loc1 N sc j y && (decide (x ≠ y) && (decide (sc.kind = .function) && ((py.line == px.line) && (noStar a && (noStar b && (!([a, b].all (foldedForSure 8)) && (!([a, b].all (constantsAlone 8)) && okL T N k sc [a, b] es')))))))))
        | _ => false)
      | .Assign [.Tuple [.Name x px, .Name y py, .Name z pz] _ _] (.Tuple [a, b, c] _ _) _ => (match is with
        | [i, j, l] => decide (i ≠ j) && (decide (i ≠ l) && (decide (j ≠ l) && (loc1 N sc i x && (loc1 N sc j y && (loc1 N sc l z && (decide (x ≠ y) && (decide (x ≠ z) && (decide (y ≠ z) && (decide (sc.kind = .function) && ((py.line == px.line) && ((pz.line == px.line) && (noStar a && (noStar b && (noStar c && (!([a, b, c].all (foldedForSure 8)) && (!([a, b, c].all (constantsAlone 8)) && okL T N k sc [a, b, c] es'))))))))))))))))
        | _ => false)
      | _ => false)
    | .asg i e' => (match s with
      | .Assign [.Name x p] e _ => decide (N[i]? = some x) && (decide (x ≠ ("self" : Str)) && (match e, e' with
        | .ListComp elt [⟨tg, iter, ifs, 0⟩] scope pos, .lc elt' tg' it' cond' => (decide (sc.names.lookup x = some .cell) && okE T N k sc (.ListComp elt [⟨tg, iter, ifs, 0⟩] scope pos) (.lc elt' tg' it' cond')) || (blkC N sc scope (ownOf N (slotsOf tg')) && (okTg (locC sc scope) N tg tg' && ((slotsOf tg').all (fun i => decide (i < N.length)) && (notSet iter && (okI T N k sc tg iter it' && (okTs T N k (relS scope sc) ifs cond' && (okE T N k (relS scope sc) elt elt' && (decide (sc.names.lookup x = some .local) && (decide (sc.kind = .function) && ((p.line == pos.line) && !(scope.names.any fun (n, k) => n == x && (k == .local || k == .cell))))))))))))
        | .ListComp elt [⟨tg, iter, [], 0⟩, ⟨tg1, iter1, ifs1, 0⟩] scope pos, .lc2 elt' tg' it' tg1' it1' cond' => (decide (sc.names.lookup x = some .cell) && okE T N k sc (.ListComp elt [⟨tg, iter, [], 0⟩, ⟨tg1, iter1, ifs1, 0⟩] scope pos) (.lc2 elt' tg' it' tg1' it1' cond')) || (lc2C N sc scope tg tg1 iter iter1 tg' tg1' it1' && (okI T N k sc tg iter it' && (okI T N k (relS scope sc) tg1 iter1 it1' && (okTs T N k (relS scope sc) ifs1 cond' && (okE T N k (relS scope sc) elt elt' && (decide (sc.names.lookup x = some .local) && (decide (sc.kind = .function) && ((p.line == pos.line) && !(scope.names.any fun (n, k) => n == x && (k == .local || k == .cell))))))))))
        | e, e' => swF e && (locF sc x && okE T N k sc e e')))
      | _ => false)
    | _ => false
def okSs : Nat → Scope → List Stmt → Sms → Bool
  | 0, _, _, _ => false
  | k + 1, sc, ss, ss' => match ss, ss' with
    | [], .nil => true
    | s :: ss, .cons s' ss' => okS k sc s s' && okSs k sc ss ss'
    | _, _ => false
end
end
end PD
/-! DChv: the checker of statements is right -/
namespace PD
open PySem PySem.Spec PyProof.Rows L2
section
variable {T : Tab} {N : List Str} {k : Nat}
theorem varC_by {sc : Scope} {i : Nat} {x : Str} (h : varC N sc i x = true) : N[i]? = some x ∧ Vis sc x ∧ (x == ("__debug__" : Str)) = false ∧ (x == ("__classdict__" : Str)) = false := by
  unfold varC at h
  simp only [Bool.and_eq_true] at h
  exact ⟨of_decide_eq_true h.1, vis_by h.2.1, dbg_by h.2.2.1, cld_by h.2.2.2⟩
theorem loc1_by {sc : Scope} {i : Nat} {x : Str} (h : loc1 N sc i x = true) : N[i]? = some x ∧ x ≠ ("self" : Str) ∧ sc.names.lookup x = some .local := by
  unfold loc1 at h
  simp only [Bool.and_eq_true] at h
  exact ⟨of_decide_eq_true h.1, of_decide_eq_true h.2.1, of_decide_eq_true h.2.2⟩
theorem locF_or {sc : Scope} {x : Str} (h : locF sc x = true) : sc.names.lookup x = some .local ∨ sc.names.lookup x = some .cell := by
  unfold locF at h
  simp only [Bool.or_eq_true] at h
  exact h.imp of_decide_eq_true of_decide_eq_true
theorem snd_ss (S : ∀ sc s s', okS T N k sc s s' = true → ImplS T N sc s s') (R : ∀ sc s s', okSs T N k sc s s' = true → ImplSs T N sc s s') : ∀ sc s s', okSs T N (k + 1) sc s s' = true → ImplSs T N sc s s' := by
  intro sc ss ss' h
  unfold okSs at h
  split at h
  · exact impl_sNil
  · simp only [Bool.and_eq_true] at h
    exact impl_sCons (S _ _ _ h.1) (R _ _ _ h.2)
  · cases h
theorem snd_s (R : ∀ sc s s', okSs T N k sc s s' = true → ImplSs T N sc s s') : ∀ sc s s', okS T N (k + 1) sc s s' = true → ImplS T N sc s s' := by
  intro sc s s' h
  have E := snd (T := T) (N := N) k
  unfold okS at h
  split at h
  · exact impl_never
  · split at h
    · exact impl_pass
    · cases h
  · split at h
    · exact impl_brk
    · cases h
  · split at h
    · exact impl_cnt
    · cases h
  · split at h
    · simp only [Bool.and_eq_true] at h
      exact impl_exp (E.e _ _ _ h.2) fun env => swF_by h.1 _ _ env
    · cases h
  · split at h
    · exact impl_retN
    · cases h
  · split at h
    · exact impl_ret (E.e _ _ _ h)
    · cases h
  · split at h
    · obtain ⟨h1, h2, h3, h4⟩ := varC_by h
      exact impl_retV h1 h2 h3 h4
    · cases h
  · split at h
    · simp only [Bool.and_eq_true] at h
      exact impl_ifS (E.t _ _ _ h.1) (R _ _ _ h.2.1) (R _ _ _ h.2.2)
    · cases h
  · split at h
    · simp only [Bool.and_eq_true] at h
      obtain ⟨h1, h2, h3, h4, h5⟩ := h
      exact impl_for h1 h2 h3 (E.i _ _ _ _ h4) (R _ _ _ h5)
    · cases h
  · split at h
    · simp only [Bool.and_eq_true] at h
      exact impl_while (E.t _ _ _ h.1) (R _ _ _ h.2)
    · cases h
  · split at h
    · simp only [Bool.and_eq_true] at h
      obtain ⟨h1, h2, h3, h4, h5⟩ := h
      obtain rfl := of_decide_eq_true h1
      obtain ⟨a1, a2, a3, a4⟩ := varC_by h2
      exact impl_app a1 a2 a3 a4 h3 h4 (E.e _ _ _ h5)
    · cases h
  · split at h
    · simp only [Bool.and_eq_true] at h
      obtain ⟨h2, h3, h4, h5⟩ := h
      obtain ⟨a1, a2, a3, a4⟩ := varC_by h2
      exact impl_setI a1 a2 a3 a4 h3 (E.e _ _ _ h4) (E.e _ _ _ h5)
    · cases h
  · split at h
    · simp only [Bool.and_eq_true] at h
      obtain ⟨h2, h3, h4, h5⟩ := h
      obtain ⟨a1, a2, a3, a4⟩ := varC_by h2
      exact impl_setH a1 a2 a3 a4 h3 (E.e _ _ _ h4) (E.e _ _ _ h5)
    · cases h
  · split at h
    · simp only [Bool.and_eq_true] at h
      obtain ⟨h2, h3, h4, h5⟩ := h
      obtain ⟨a1, a2, a3, a4⟩ := varC_by h2
      exact impl_setD a1 a2 a3 a4 h3 (E.e _ _ _ h4) (E.e _ _ _ h5)
    · cases h
  · split at h
    · simp only [Bool.and_eq_true] at h
      obtain ⟨h1, h2, h3⟩ := h
      obtain rfl := of_decide_eq_true h1
      obtain ⟨a1, a2, a3, a4⟩ := varC_by h2
      exact impl_clr a1 a2 a3 a4 h3
    · cases h
  · split at h
    · simp only [Bool.and_eq_true] at h
      obtain ⟨h1, h2, h3, h4, h5⟩ := h
      refine impl_asgT h1 h2 (E.e _ _ _ h5) h3 ?_
      rcases Bool.or_eq_true _ _ ▸ h4 with h4 | h4
      · exact fun env _ => swapped_tup h4 _ _ env
      · unfold cell2 at h4
        split at h4
        · exact sw_cell2 (of_decide_eq_true h4)
        · cases h4
    · cases h
  · split at h
    · simp only [Bool.and_eq_true] at h
      exact impl_retT h.1 (of_decide_eq_true h.2)
    · cases h
  · split at h
    · simp only [Bool.and_eq_true] at h
      obtain ⟨h2, h3, h4, h5⟩ := h
      obtain ⟨a1, a2, a3, a4⟩ := varC_by h2
      exact impl_fld a1 a2 a3 a4 (of_decide_eq_true h3) h4 (E.e _ _ _ h5)
    · cases h
  · split at h
    · split at h
      · simp only [Bool.and_eq_true] at h
        obtain ⟨h1, h2, h3, h4, h5, h6, h7, h8, h9, h10, h11⟩ := h
        obtain ⟨a1, a2, a3⟩ := loc1_by h2
        obtain ⟨b1, b2, b3⟩ := loc1_by h3
        exact impl_par2 a1 b1 (of_decide_eq_true h1) a2 b2 a3 b3 (E.l _ _ _ h11) (sw_par2 (of_decide_eq_true h5) a3 b3 h6 (of_decide_eq_true h4) h7 h8 (not_by h9) (not_by h10))
      · cases h
    · split at h
      · simp only [Bool.and_eq_true] at h
        obtain ⟨h1, h2, h3, h4, h5, h6, h7, h8, h9, h10, h11, h12, h13, h14, h15, h16, h17, h18⟩ := h
        obtain ⟨a1, a2, a3⟩ := loc1_by h4
        obtain ⟨b1, b2, b3⟩ := loc1_by h5
        obtain ⟨c1, c2, c3⟩ := loc1_by h6
        exact impl_par3 a1 b1 c1 (of_decide_eq_true h1) (of_decide_eq_true h2) (of_decide_eq_true h3) a2 b2 c2 a3 b3 c3 (E.l _ _ _ h18) (sw_par3 (of_decide_eq_true h10) a3 b3 c3 h11 h12 (of_decide_eq_true h7) (of_decide_eq_true h8) (of_decide_eq_true h9) h13 h14 h15 (not_by h16) (not_by h17))
      · cases h
    · cases h
  · split at h
    · simp only [Bool.and_eq_true] at h
      obtain ⟨h1, h2, h3⟩ := h
      split at h3
      · rcases Bool.or_eq_true _ _ ▸ h3 with h3 | h3
        · simp only [Bool.and_eq_true] at h3
          obtain ⟨g1, g2⟩ := h3
          have gc := of_decide_eq_true g1
          exact impl_asg (of_decide_eq_true h1) (of_decide_eq_true h2) (.inr gc) (E.e _ _ _ g2) (sw_cell1 gc)
        simp only [Bool.and_eq_true] at h3
        obtain ⟨g1, g2, g3, g4, g5, g6, g7, g8, g9, g10, g11⟩ := h3
        exact impl_asgLc g1 (ownOf_snd _ _) g2 g3 g4 (E.i _ _ _ _ g5) (E.ts _ _ _ g6) (E.e _ _ _ g7) (of_decide_eq_true h1) (of_decide_eq_true h2) (of_decide_eq_true g8) (of_decide_eq_true g9) g10 (not_by g11)
      · rcases Bool.or_eq_true_iff.mp h3 with h3 | h3
        · simp only [Bool.and_eq_true] at h3
          obtain ⟨g1, g2⟩ := h3
          have gc := of_decide_eq_true g1
          exact impl_asg (of_decide_eq_true h1) (of_decide_eq_true h2) (.inr gc) (E.e _ _ _ g2) (sw_cell1 gc)
        simp only [Bool.and_eq_true] at h3
        obtain ⟨hc, g5, g51, g6, g7, g8, g9, g10, g11⟩ := h3
        unfold lc2C at hc
        simp only [Bool.and_eq_true] at hc
        obtain ⟨g1, g2, g21, g3, g31, hdj, g4, g41⟩ := hc
        exact impl_asgLc2 g1 (ownOf_snd _ _) g2 g21 g3 g31 hdj g4 g41 (E.i _ _ _ _ g5) (E.i _ _ _ _ g51) (E.ts _ _ _ g6) (E.e _ _ _ g7) (of_decide_eq_true h1) (of_decide_eq_true h2) (of_decide_eq_true g8) (of_decide_eq_true g9) g10 (not_by g11)
      · simp only [Bool.and_eq_true] at h3
        obtain ⟨g1, g2, g3⟩ := h3
        exact impl_asg (of_decide_eq_true h1) (of_decide_eq_true h2) (locF_or g2) (E.e _ _ _ g3) fun env _ => swF_by g1 _ _ env
    · cases h
  · cases h
theorem snd_all : ∀ k, (∀ sc s s', okS T N k sc s s' = true → ImplS T N sc s s') ∧ (∀ sc s s', okSs T N k sc s s' = true → ImplSs T N sc s s')
  | 0 => ⟨fun _ _ _ h => (by unfold okS at h; cases h), fun _ _ _ h => (by unfold okSs at h; cases h)⟩
  | k + 1 => ⟨snd_s (snd_all k).2, snd_ss (snd_all k).1 (snd_all k).2⟩
end
end PD
/-! DEnd: a law's def is called -/
namespace PD
open PySem PySem.Spec PyProof.Rows L2
/-- what a law's call is to give -/
def Told (s : Shared) (r : Result) (s' : Shared) : Prop := r = .ok (.ret (.bool true)) ∧ OldK s.heap s'.heap ∧ s'.os = s.os ∧ AllBare s'.gens
section
variable {P : Program} {w : World} {K : PySem.W.Frag} {mg mb : Str → Option Value} {k : Nat} {fa a : Addr} {sp : Sp} {s : Shared} {vs : List Value} {ns : List Int}
/-- from any view of the heap that tracks at most the script -/
theorem told_from {H : Hp} (KX : K.In s.heap) (hns : s.heap.Ns mainGlobals mg) (hb : s.heap.Ns builtinsNs mb) (hbb : ∀ x : Str, x ≠ "__name__" → mb x = bootBuiltins x) (hlim : s.heap.NoLimit) (hg : s.gens = #[])
    (ha : s.heap.get? a = some { cls := .type "list", data := .seq vs.toArray }) (room : Room k callerA) (F : ∀ base : Heap, K.In base → base.Ns mainGlobals mg → FnG P w K mg base k fa sp)
    (only : Only H) (ok : HOk P w H s.heap) (at_ : ∀ b, H b ≠ none → b = a) (out : H a ≠ none → K.lookup a = none) (told : sp [.ref a] H (fun v _ => v = .bl true) fun _ _ _ => False) :
    codeAny (model P w) callerA (.call (.ref fa) ⟨[.ref a], []⟩) (Told s) s := by
  -- the part of the heap that is not tracked
  have keepB : ∀ {b : Addr} {o : Obj}, s.heap.get? b = some o → H b = none → (hidT s.heap H).get? b = some o := fun z q => hidT_get z q
  have free : ∀ {b : Addr}, (b ≠ a) → H b = none := fun {b} nb => Classical.byContradiction fun z => nb (at_ b z)
  have keepN : ∀ {b : Addr} {m : Str → Option Value}, s.heap.Ns b m → (hidT s.heap H).Ns b m := fun {b m} ⟨o, es, ep, z, d, r⟩ => by
    refine ⟨o, es, ep, keepB z (free fun q => ?_), d, r⟩
    subst q
    rw [ha] at z
    cases z
    cases d
  have keepK : K.In (hidT s.heap H) := fun b o z => keepB (KX b o z) (Classical.byContradiction fun q => by
    obtain rfl := at_ b q
    rw [out q] at z
    cases z)
  obtain ⟨ml, l1, l2⟩ := hlim
  have e0 : Env0 P w K mg (hidT s.heap H) callerA [] s H :=
    ⟨rfl, ⟨keepK, keepN hns, ⟨mb, keepN hb, hbb⟩, ⟨ml, keepN l1, l2⟩⟩, fun b o z => of_hidT z, Nat.le_of_eq (hidT_size _ _), trivial, fun b z => (by cases z), ok, .of_eq hg⟩
  refine codeAny_mono (F _ keepK (keepN hns) callerA [] s H [.ref a] [.ref a] _ _ room rfl e0 (.cons rfl .nil) told) fun r s' z => ?_
  match r, z with
  | .error e, z => exact (show False from by obtain ⟨_, _, _, _, _, _, _, _, _, _, _, _, q⟩ := z; exact q).elim
  | .ok .next, z => exact (show False from z).elim
  | .ok .brk, z => exact (show False from z).elim
  | .ok .cont, z => exact (show False from z).elim
  | .ok (.ret u), z =>
    obtain ⟨v, H', os, bare, un, ok', rv, q⟩ := z
    obtain rfl : v = .bl true := q
    obtain rfl : u = Value.bool true := rv
    refine ⟨rfl, OldK.of_keep fun b o z => ?_, os, bare⟩
    rcases only b with q | ⟨ob, xs, q⟩
    · exact un.keep b o z q (fun y => (by cases y)) (by simp)
    · obtain ⟨y1, _⟩ := ok b _ q
      obtain ⟨y2, _⟩ := ok' b _ (un.frzs b ob _ q)
      rw [z] at y1
      cases y1
      exact y2
/-- the law's call -/
theorem told_of (KX : K.In s.heap) (hns : s.heap.Ns mainGlobals mg) (hb : s.heap.Ns builtinsNs mb) (hbb : ∀ x : Str, x ≠ "__name__" → mb x = bootBuiltins x) (hlim : s.heap.NoLimit) (hg : s.gens = #[])
    (ha : s.heap.get? a = some { cls := .type "list", data := .seq vs.toArray }) (hi : IntsAre vs ns) (hl : ns.length ≤ sizeLine) (room : Room k callerA) (F : ∀ base : Heap, K.In base → base.Ns mainGlobals mg → FnG P w K mg base k fa sp)
    (told : ∀ H : Hp, Only H → ScrAt K [] (fun _ => True) H a ns → sp [.ref a] H (fun v _ => v = .bl true) fun _ _ _ => False) :
    codeAny (model P w) callerA (.call (.ref fa) ⟨[.ref a], []⟩) (Told s) s := by
  have rv := vals_ints hi
  have len := hi.length
  by_cases hk : K.lookup a = none
  · have at_a : ∀ b, (if b = a then some (HO.frz { cls := .type "list", data := .seq vs.toArray } (.lst (ns.map V.int))) else none) ≠ none → b = a := fun b z => Classical.byContradiction fun q => z (if_neg q)
    have only : Only (fun b => if b = a then some (HO.frz { cls := .type "list", data := .seq vs.toArray } (.lst (ns.map V.int))) else none) := fun b => by
      by_cases q : b = a
      · exact .inr ⟨_, _, if_pos q⟩
      · exact .inl (if_neg q)
    refine told_from KX hns hb hbb hlim hg ha room F only (fun b u z => ?_) at_a (fun _ => hk) (told _ only (.inl ⟨.inr ⟨_, if_pos rfl⟩, by simp, trivial⟩))
    obtain rfl := at_a b (by rw [z]; simp)
    rw [if_pos rfl] at z
    cases z
    exact ⟨ha, by rw [List.length_map]; exact hl, vs, _, rv, ha⟩
  · obtain ⟨o, ho⟩ := Option.ne_none_iff_exists'.mp hk
    have e := KX a o ho
    rw [ha] at e
    cases e
    refine told_from (H := fun _ => none) KX hns hb hbb hlim hg ha room F (fun _ => .inl rfl) (fun b u z => (by cases z)) (fun b z => absurd rfl z) (fun z => absurd rfl z) (told _ (fun _ => .inl rfl) (.inr ⟨_, vs.toArray, _, ho, rfl, rfl, rfl, by rw [List.size_toArray, len]; exact hl, by simpa using rv⟩))
end
end PD
/-! DFac: what a program's top leaves gives the facts of all depths -/
namespace PD
open PySem PySem.Spec PyProof.Rows L2
/-! ### binding -/
theorem zip_lookup_some : ∀ {ps : List Str} {us : List Value}, us.length = ps.length → ∀ n ∈ ps, ((ps.zip us).lookup n).isSome = true
  | p :: ps, u :: us, h, n, hn => by
    rw [List.zip_cons_cons, List.lookup_cons]
    by_cases q : n = p
    · subst q; simp
    · have : (n == p) = false := by simpa using q
      rw [this]
      exact zip_lookup_some (by simpa using h) n (by simpa [q] using hn)
theorem zip_fm : ∀ {ps : List Str} {us : List Value}, us.length = ps.length → ps.Nodup → ps.filterMap (fun n => ((ps.zip us).lookup n).map (n, ·)) = ps.zip us
  | [], [], _, _ => rfl
  | p :: ps, u :: us, h, nd => by
    rw [List.zip_cons_cons, List.filterMap_cons]
    have e1 : (((p, u) :: ps.zip us).lookup p).map (p, ·) = some (p, u) := by simp [List.lookup_cons]
    rw [e1]
    have e2 : ps.filterMap (fun n => (((p, u) :: ps.zip us).lookup n).map (n, ·)) = ps.filterMap (fun n => ((ps.zip us).lookup n).map (n, ·)) := by
      have key : ∀ qs : List Str, (∀ n ∈ qs, n ≠ p) → qs.filterMap (fun n => (((p, u) :: ps.zip us).lookup n).map (n, ·)) = qs.filterMap (fun n => ((ps.zip us).lookup n).map (n, ·)) := by
        intro qs hq
        induction qs with
        | nil => rfl
        | cons x qs ih =>
          have e : (x == p) = false := by simpa using hq x (by simp)
          rw [List.filterMap_cons, List.filterMap_cons, List.lookup_cons, e, ih fun n hn => hq n (by simp [hn])]
      exact key ps fun n hn q => (List.nodup_cons.mp nd).1 (q ▸ hn)
    show (p, u) :: ps.filterMap (fun n => (((p, u) :: ps.zip us).lookup n).map (n, ·)) = _
    rw [e2, zip_fm (by simpa using h) (List.nodup_cons.mp nd).2]
theorem bind_plain {fd : FuncData} {ps : List Str} {us : List Value} (h1 : fd.params.posonlyargs = []) (h2 : fd.params.args.map (·.arg) = ps) (h3 : fd.params.vararg = none) (h4 : fd.params.kwonlyargs = []) (h5 : fd.params.kwarg = none) (hd : fd.defaults = .none) (nd : ps.Nodup) (hl : us.length = ps.length) :
    bindArgs fd ⟨us, []⟩ = pure (ps.zip us) := by
  unfold bindArgs
  have e0 : seqItems? fd.defaults = pure none := by rw [hd]; rfl
  have e3 : (ps.filter fun n => ((ps.zip us).lookup n).isNone) = [] := by
    rw [List.filter_eq_nil_iff]
    intro n hn
    have := zip_lookup_some hl n hn
    cases q : (ps.zip us).lookup n with
    | none => rw [q] at this; cases this
    | some v => simp
  have pb : ∀ {α β : Type} (a : α) (f : α → Sem β), (pure a >>= f) = f a := fun _ _ => rfl
  simp only [h1, h2, h3, h4, h5, e0, List.map_nil, List.nil_append, List.append_nil, List.forIn_nil, List.forIn'_nil, pb, Option.getD_none, hl]
  simp [e3, zip_fm hl nd, pb, List.filter_nil]

/-! ### a def of the text -/
structure DefE where
  d : He.DefD
  N : List Str
  ps : List Str
structure Spec where
  P : Pr
  gn : List Str
  fnm : List Str
  mn : List Str
  cn : List Str
  fl : List (List Str)
  kcs : List Nat
  lens : List (Nat × Nat)
  defs : List DefE
def noN : Str := "?"
def plcOf (K : PySem.W.Frag) (C : Addr) (f : Str) : Nat := match PySem.W.findIn K (.ref C) f with
  | some (some (.ref p)) => (match PySem.W.slotIn K p C with | some i => i | none => 0)
  | _ => 0
def mkT (S : Spec) (K : PySem.W.Frag) (v : Option V) : Tab where
  P := S.P
  CT := fun c => { C := He.ga K (S.cn.getD c noN), slotted := true, names := S.fl.getD c [], place := fun k => if k < (S.fl.getD c []).length then plcOf K (He.ga K (S.cn.getD c noN)) ((S.fl.getD c []).getD k noN) else 1000 + k }
  gname := fun k => S.gn.getD k noN
  fname := fun k => S.fnm.getD k noN
  mname := fun k => S.mn.getD k noN
  cname := fun k => S.cn.getD k noN
  self := v
/-! ### what is looked at behind the top -/
mutual
def repB (K : PySem.W.Frag) : D → Value → Bool
  | .non, .none => true
  | .bl b, .bool c => b == c
  | .int i, .int j _ => decide (i = j)
  | .str s, .str t _ => decide (t.cps.toList = s)
  | .tup ds, .ref a => (match K.lookup a with
    | some ⟨.type c, none, .seq its _, _⟩ => decide (c = "tuple") && (decide (its.size ≤ sizeLine) && repBL K ds its.toList)
    | _ => false)
  | _, _ => false
def repBL (K : PySem.W.Frag) : List D → List Value → Bool
  | [], [] => true
  | d :: ds, u :: us => repB K d u && repBL K ds us
  | _, _ => false
end
mutual
theorem repB_ok {K : PySem.W.Frag} {CT : CTab} : ∀ {d : D} {u : Value}, repB K d u = true → ∃ v, RelV v u ∧ Rep K CT [] (fun _ => False) (fun _ => none) d .no v []
  | .non, u, h => by
    unfold repB at h
    cases u with
    | none => exact ⟨.non, rfl, by unfold Rep; exact ⟨rfl, rfl⟩⟩
    | _ => cases h
  | .bl b, u, h => by
    unfold repB at h
    cases u with
    | bool c =>
      have : b = c := by simpa using h
      subst this
      exact ⟨.bl b, rfl, by unfold Rep; exact ⟨rfl, rfl⟩⟩
    | _ => cases h
  | .int i, u, h => by
    unfold repB at h
    cases u with
    | int j t =>
      obtain rfl := of_decide_eq_true h
      exact ⟨.int i, ⟨t, rfl⟩, by unfold Rep; exact ⟨rfl, rfl⟩⟩
    | _ => cases h
  | .str s, u, h => by
    unfold repB at h
    cases u with
    | str z t =>
      obtain rfl := of_decide_eq_true h
      exact ⟨.str z, ⟨t, rfl⟩, by unfold Rep; exact ⟨by unfold toStr; simp, rfl⟩⟩
    | _ => cases h
  | .tup ds, u, h => by
    unfold repB at h
    cases u with
    | ref a =>
      have h : (match K.lookup a with
        | some ⟨.type c, none, .seq its _, _⟩ => decide (c = "tuple") && (decide (its.size ≤ sizeLine) && repBL K ds its.toList)
        | _ => false) = true := h
      cases q : K.lookup a with
      | none => rw [q] at h; cases h
      | some o =>
        obtain ⟨oc, od, dt, osl⟩ := o
        rw [q] at h
        cases oc with
        | type c =>
          cases od with
          | none =>
            cases dt with
            | seq its n =>
              have h : (decide (c = "tuple") && (decide (its.size ≤ sizeLine) && repBL K ds its.toList)) = true := h
              simp only [Bool.and_eq_true] at h
              obtain ⟨h1, h2, h3⟩ := h
              obtain rfl := of_decide_eq_true h1
              obtain ⟨vs, r1, r2⟩ := repBL_ok h3
              refine ⟨.ref a, rfl, ?_⟩
              unfold Rep
              exact ⟨a, vs, rfl, .inr ⟨_, its, n, q, rfl, rfl, of_decide_eq_true h2, r1, rfl⟩, r2⟩
            | _ => cases h
          | some b => cases dt <;> cases h
        | _ => cases od <;> cases dt <;> cases h
    | _ => cases h
  | .lst xs, u, h => by unfold repB at h; cases u <;> cases h
  | .dic xs ys, u, h => by unfold repB at h; cases u <;> cases h
  | .ins c xs, u, h => by unfold repB at h; cases u <;> cases h
  | .hnd c, u, h => by unfold repB at h; cases u <;> cases h
  | .scr xs, u, h => by unfold repB at h; cases u <;> cases h
theorem repBL_ok {K : PySem.W.Frag} {CT : CTab} : ∀ {ds : List D} {us : List Value}, repBL K ds us = true → ∃ vs, Vals vs us ∧ RepL K CT [] (fun _ => False) (fun _ => none) ds .no vs []
  | [], us, h => by
    unfold repBL at h
    cases us with
    | nil => exact ⟨[], .nil, by unfold RepL; exact ⟨rfl, rfl⟩⟩
    | cons u us => cases h
  | d :: ds, us, h => by
    unfold repBL at h
    cases us with
    | nil => cases h
    | cons u us =>
      have h : (repB K d u && repBL K ds us) = true := h
      simp only [Bool.and_eq_true] at h
      obtain ⟨v, r1, r2⟩ := repB_ok h.1
      obtain ⟨vs, r3, r4⟩ := repBL_ok h.2
      exact ⟨v :: vs, .cons r1 r3, by unfold RepL; exact ⟨v, vs, [], [], rfl, rfl, r2, r4⟩⟩
end
def eqS (a b : Option (Option Value)) : Bool := decide (a = b)
theorem eqS_ok {a b : Option (Option Value)} (h : eqS a b = true) : a = b := of_decide_eq_true h
def slotB (K : PySem.W.Frag) (C : Addr) (f : Str) : Bool := match PySem.W.findIn K (.ref C) f with
  | some (some (.ref p)) => eqS (PySem.W.specialIn K (.ref p) "__get__") (some (some (.builtin "member_descriptor.__get__"))) && (decide (PySem.W.takesIn K (.ref p) = some true) && (decide (PySem.W.typeIn K (.ref p) = some (.type "member_descriptor")) && (match PySem.W.slotIn K p C with
    | some i => decide (i < 1000)
    | none => false)))
  | _ => false
theorem slotB_ok {K : PySem.W.Frag} {C : Addr} {f : Str} (h : slotB K C f = true) : ∃ p, SlX.Slot1 K C f p (plcOf K C f) ∧ plcOf K C f < 1000 := by
  unfold slotB at h
  unfold plcOf
  split at h
  · rename_i p hp
    simp only [Bool.and_eq_true] at h
    obtain ⟨h1, h2, h3, h4⟩ := h
    refine ⟨p, ?_⟩
    cases q : PySem.W.slotIn K p C with
    | none => rw [q] at h4; cases h4
    | some i =>
      rw [q] at h4
      have l : i < 1000 := of_decide_eq_true h4
      simp only [hp, q]
      exact ⟨⟨hp, eqS_ok h1, of_decide_eq_true h2, of_decide_eq_true h3, q, l⟩, l⟩
  · cases h
def clsB (K : PySem.W.Frag) (C : Addr) : Bool := PySem.W.plainGet K C Str.empty && (PySem.W.isClsIn K C && (PySem.W.plainOver K C && (eqS (PySem.W.findIn K (.ref C) "__setattr__") (some (some (.builtin "object.__setattr__"))) &&
  (eqS (PySem.W.findIn K (.ref C) "__class__") (some (some (.builtin "object.__class__"))) && (eqS (PySem.W.specialIn K (.builtin "object.__class__") "__get__") (some (some (.builtin "getset_descriptor.__get__"))) && (decide (PySem.W.takesIn K (.builtin "object.__class__") = some true) && decide (PySem.W.mroIn K C (.type "object") = some true)))))))
theorem clsB_ok {K : PySem.W.Frag} {C : Addr} (h : clsB K C = true) : SlX.SCls K C ∧ SlX.SIsi K C := by
  unfold clsB at h
  simp only [Bool.and_eq_true] at h
  obtain ⟨h1, h2, h3, h4, h5, h6, h7, h8⟩ := h
  exact ⟨⟨h1, h2, h3, eqS_ok h4⟩, ⟨eqS_ok h5, eqS_ok h6, of_decide_eq_true h7, of_decide_eq_true h8⟩⟩
def kitNs : List String := ["NoneType", "bool", "int", "str", "list", "tuple", "dict"]
def kitB (K : PySem.W.Frag) (C : Addr) : Bool := kitNs.all fun a => decide (PySem.W.kitOne K (.type a) (.ref C) = some false) && decide (PySem.W.kitOne K (.ref C) (.type a) = some false)
/-- different places -/
def distB : List Nat → Bool
  | [] => true
  | x :: xs => xs.all (fun y => decide (x ≠ y)) && distB xs
theorem distB_ok : ∀ {l : List Nat}, distB l = true → l.Nodup
  | [], _ => List.nodup_nil
  | x :: xs, h => by
    unfold distB at h
    simp only [Bool.and_eq_true, List.all_eq_true] at h
    exact List.nodup_cons.mpr ⟨fun z => of_decide_eq_true (h.1 x z) rfl, distB_ok h.2⟩
section
variable (S : Spec) (K : PySem.W.Frag)
abbrev cA (c : Nat) : Addr := He.ga K (S.cn.getD c noN)
def classB (c : Nat) : Bool := (He.Fa.glo (S.cn.getD c noN)).ok K && (clsB K (cA S K c) && (kitB K (cA S K c) && ((S.fl.getD c []).all (slotB K (cA S K c)) && (distB ((S.fl.getD c []).map (plcOf K (cA S K c))) &&
  S.kcs.all fun c' => decide (PySem.W.kitOne K (.ref (cA S K c)) (.ref (cA S K c')) = some (c' == c))))))
def globB (k : Nat) (d : D) : Bool := match PySem.W.nsIn K mainGlobals (S.gn.getD k noN) with
  | some (some u) => repB K d u
  | _ => false
def globsB : Nat → List D → Bool
  | _, [] => true
  | k, d :: ds => globB S K k d && globsB (k + 1) ds
/-- where a def stands -/
def standsB (f : Nat) (F : Fn) (e : DefE) : Bool := e.d.ok K && (match F.ini with
  | none => (match S.P.mc f with
    | none => decide (e.d.at_ = (S.fnm.getD f noN, none)) && (He.Fa.glo (S.fnm.getD f noN)).ok K
    | some c => decide (e.d.at_ = (S.cn.getD c noN, some (S.mn.getD f noN))) && (S.kcs.contains c && (He.Fa.meth (S.cn.getD c noN) (S.mn.getD f noN)).ok K))
  | some c => decide (e.d.at_ = (S.cn.getD c noN, some ("__init__" : Str))) && (decide (S.fnm.getD f noN = S.cn.getD c noN) && ((He.Fa.mkr (S.cn.getD c noN)).ok K && S.kcs.contains c)))
def defsB : Nat → List Fn → List DefE → Bool
  | _, [], [] => true
  | f, F :: Fs, e :: es => standsB S K f F e && defsB (f + 1) Fs es
  | _, _, _ => false
def lenB (q : Nat × Nat) : Bool := S.kcs.contains q.1 && (match S.P.fns[q.2]?, S.P.mc q.2 with
  | some F, some c => decide (F.ini = none) && (decide (c = q.1) && decide (S.mn.getD q.2 noN = ("__len__" : Str)))
  | _, _ => false)
def freeNs : List Str := ["len", "int", "bool", "str", "repr", "sum", "min", "max", "all", "any", "list", "tuple", "dict", "sorted", "range", "enumerate", "zip", "reversed", "isinstance", "set"]
def lookB : Bool := freeNs.all (fun x => (He.Fa.free x).ok K) && (S.kcs.all (classB S K) && (globsB S K 0 S.P.gl && (defsB S K 0 S.P.fns S.defs && S.lens.all (lenB S))))
end
/-! ### what the text alone shows -/
def scB (N ps : List Str) (sc : Scope) : Bool := decide (sc.kind = .function) && (decide (sc.isCoroutine = false) && (decide (sc.isGenerator = false) && (decide N.Nodup && (decide (N.take ps.length = ps) && (ps.all (fun x => decide (sc.names.lookup x = some .local ∨ sc.names.lookup x = some .cell)) && sc.names.all fun y => decide (y.2 ≠ .free))))))
theorem scB_ok {N ps : List Str} {sc : Scope} (h : scB N ps sc = true) : FnScope N ps sc := by
  unfold scB at h
  simp only [Bool.and_eq_true, List.all_eq_true] at h
  obtain ⟨h1, h2, h3, h4, h5, h6, h7⟩ := h
  exact ⟨of_decide_eq_true h1, of_decide_eq_true h2, of_decide_eq_true h3, of_decide_eq_true h4, of_decide_eq_true h5, fun x hx => of_decide_eq_true (h6 x hx), fun y hy => of_decide_eq_true (h7 y hy)⟩
def argB (a : Arguments) (ps : List Str) : Bool := a.posonlyargs.isEmpty && (decide (a.args.map (·.arg) = ps) && (a.vararg.isNone && (a.kwonlyargs.isEmpty && (a.kwarg.isNone && decide ps.Nodup))))
def textB (T : Tab) (fuel : Nat) (F : Fn) (e : DefE) : Bool := okSs T e.N fuel e.d.scope e.d.body F.body && (scB e.N e.ps e.d.scope && (argB e.d.params e.ps && (e.d.dfl.isEmpty && (decide (F.np = e.ps.length) && (decide (F.ns = e.N.length) && (decide (e.ps.length ≤ e.N.length) && (match F.ini with
  | none => true
  | some c => decide (e.N[0]? = some ("self" : Str)))))))))
def textsB (T : Tab) (fuel : Nat) : List Fn → List DefE → Bool
  | [], [] => true
  | F :: Fs, e :: es => textB T fuel F e && textsB T fuel Fs es
  | _, _ => false
/-! ### the facts -/
theorem textsB_at {T : Tab} {fuel : Nat} : ∀ {Fs : List Fn} {es : List DefE} {f : Nat} {F : Fn}, textsB T fuel Fs es = true → Fs[f]? = some F → ∃ e, es[f]? = some e ∧ textB T fuel F e = true
  | [], _, _, _, _, h => by simp at h
  | G :: Fs, [], _, _, h, _ => by unfold textsB at h; cases h
  | G :: Fs, e :: es, f, F, h, hF => by
    unfold textsB at h
    simp only [Bool.and_eq_true] at h
    cases f with
    | zero =>
      rw [List.getElem?_cons_zero] at hF
      cases hF
      exact ⟨e, rfl, h.1⟩
    | succ f =>
      rw [List.getElem?_cons_succ] at hF
      obtain ⟨e', h1, h2⟩ := textsB_at h.2 hF
      exact ⟨e', by rw [List.getElem?_cons_succ]; exact h1, h2⟩
theorem defsB_at {S : Spec} {K : PySem.W.Frag} : ∀ {Fs : List Fn} {es : List DefE} {k f : Nat} {F : Fn} {e : DefE}, defsB S K k Fs es = true → Fs[f]? = some F → es[f]? = some e → standsB S K (k + f) F e = true
  | [], _, _, _, _, _, _, h, _ => by simp at h
  | G :: Fs, [], _, _, _, _, h, _, _ => by unfold defsB at h; cases h
  | G :: Fs, e :: es, k, f, F, e', h, hF, he => by
    unfold defsB at h
    simp only [Bool.and_eq_true] at h
    cases f with
    | zero =>
      rw [List.getElem?_cons_zero] at hF he
      cases hF
      cases he
      exact h.1
    | succ f =>
      rw [List.getElem?_cons_succ] at hF he
      have z := defsB_at h.2 hF he
      rw [show k + 1 + f = k + (f + 1) by omega] at z
      exact z
theorem globsB_at {S : Spec} {K : PySem.W.Frag} : ∀ {ds : List D} {k i : Nat} {d : D}, globsB S K k ds = true → ds[i]? = some d → globB S K (k + i) d = true
  | [], _, _, _, _, h => by simp at h
  | d' :: ds, k, i, d, h, hd => by
    unfold globsB at h
    simp only [Bool.and_eq_true] at h
    cases i with
    | zero =>
      rw [List.getElem?_cons_zero] at hd
      cases hd
      exact h.1
    | succ i =>
      rw [List.getElem?_cons_succ] at hd
      have z := globsB_at h.2 hd
      rw [show k + 1 + i = k + (i + 1) by omega] at z
      exact z
/-- what the text gives of a program -/
structure Text (S : Spec) (fuel : Nat) : Prop where
  rp : S.P.rp = rpD
  kc : ∀ c, S.P.kc c = true → S.kcs.contains c = true
  ck : ∀ c, S.kcs.contains c = true → S.P.kc c = true
  len : ∀ c f, S.P.lenF c = some f → (c, f) ∈ S.lens
  tx : ∀ (K : PySem.W.Frag) (v : Option V), textsB (mkT S K v) fuel S.P.fns S.defs = true
/-- what the top leaves -/
structure Left (S : Spec) (K : PySem.W.Frag) : Prop where
  look : lookB S K = true
  fw : S.defs.map (fun e => He.fnW K e.d.at_) = S.defs.map fun e => e.d.val
theorem getD_lt {α : Type} {l : List α} {i : Nat} {x : α} (h : i < l.length) : l.getD i x = l[i] := by
  rw [List.getD_eq_getElem?_getD, List.getElem?_eq_getElem h]
  rfl
section
variable {S : Spec} {K : PySem.W.Frag} {fuel : Nat} {P : Program} {w : World} {mg : Str → Option Value} {base h : Heap}
theorem Left.fnW (L : Left S K) {f : Nat} {e : DefE} (he : S.defs[f]? = some e) : He.fnW K e.d.at_ = e.d.val := by
  have z : (S.defs.map (fun e => He.fnW K e.d.at_))[f]? = (S.defs.map fun e => e.d.val)[f]? := by rw [L.fw]
  rw [List.getElem?_map, List.getElem?_map, he] at z
  exact Option.some.inj z
theorem Left.stands (L : Left S K) {f : Nat} {F : Fn} {e : DefE} (hF : S.P.fns[f]? = some F) (he : S.defs[f]? = some e) : standsB S K f F e = true := by
  have z := L.look
  unfold lookB at z
  simp only [Bool.and_eq_true] at z
  have y := defsB_at z.2.2.2.1 hF he
  rwa [Nat.zero_add] at y
theorem Left.cls (L : Left S K) {c : Nat} (hc : S.kcs.contains c = true) : classB S K c = true := by
  have z := L.look
  unfold lookB at z
  simp only [Bool.and_eq_true, List.all_eq_true] at z
  exact z.2.1 c (by simpa using hc)
/-- all defs keep their promises n calls deep -/
def Prom (S : Spec) (K : PySem.W.Frag) (P : Program) (w : World) (mg : Str → Option Value) (base : Heap) (n : Nat) : Prop :=
  ∀ f F e, S.P.fns[f]? = some F → S.defs[f]? = some e → (F.ini = none → FnG P w K mg base (4 * n) (He.fAd K e.d.at_) (SpF (mkT S K none) K n f)) ∧ ∀ c, F.ini = some c → FnG P w K mg base (4 * n) (He.fAd K e.d.at_) (SpI (mkT S K none) K n f c)
theorem prom_zero : Prom S K P w mg base 0 := by
  intro f F e hF he
  refine ⟨fun hi A outer s H us vs Q E room gd e0 rv told => ?_, fun c hi A outer s H us vs Q E room gd e0 rv told => ?_⟩
  · obtain ⟨ds, α, G, st, _, _, _, h⟩ := told
    exact h.elim
  · obtain ⟨x, dx, H0, ws, ds, α, G, st, _, _, _, _, _, _, _, _, h⟩ := told
    exact h.elim
theorem prom_succ (TX : Text S fuel) (L : Left S K) {n : Nat} (fx : Facts (mkT S K none) n P w K mg base) : Prom S K P w mg base (n + 1) := by
  intro f F e hF he
  obtain ⟨e', he', tx⟩ := textsB_at (TX.tx K none) hF
  rw [he] at he'
  cases he'
  have st := L.stands hF he
  unfold standsB at st
  simp only [Bool.and_eq_true] at st
  obtain ⟨fd, FD⟩ := He.DefD.funD (L.fnW he) st.1
  have TXv : ∀ v, textB (mkT S K v) fuel F e = true := fun v => by
    obtain ⟨e', he', tx⟩ := textsB_at (TX.tx K v) hF
    rw [he] at he'
    cases he'
    exact tx
  unfold textB at tx
  simp only [Bool.and_eq_true] at tx
  obtain ⟨t1, t2, t3, t4, t5, t6, t7, t8⟩ := tx
  have Sc := scB_ok t2
  unfold argB at t3
  simp only [Bool.and_eq_true, List.isEmpty_iff, Option.isNone_iff_eq_none] at t3
  obtain ⟨a1, a2, a3, a4, a5, a6⟩ := t3
  have hd : e.d.dfl = [] := List.isEmpty_iff.mp t4
  have FD' : FunD K e.d.name e.d.qual e.d.params e.d.body e.d.scope [] (e.d.kws K) (He.fAd K e.d.at_) fd := by
    have z := FD
    unfold He.DefD.dvs at z
    rw [hd] at z
    exact z
  have hb : Binds K fd e.ps [] := FD'.bindsN fun kV doc pm an cdv ct us hl => bind_plain a1 (of_decide_eq_true a2) a3 a4 a5 rfl (of_decide_eq_true a6) hl
  obtain ⟨oc, od, dV, kV, doc, pm, an, cdv, ct, osl, rfl, lk, hcd, _, _⟩ := FD'.ex
  refine ⟨fun hi => ?_, fun c hi => ?_⟩
  · exact def_fn (T := mkT S K none) hF hi (of_decide_eq_true t5) (of_decide_eq_true t6) rfl (of_decide_eq_true t7) ((snd_all fuel).2 _ _ _ t1) fx lk hcd Sc hb
  · rw [hi] at t8
    have st2 := st.2
    rw [hi] at st2
    simp only [Bool.and_eq_true] at st2
    refine def_ini (T := mkT S K none) hF hi (TX.ck c st2.2.2.2) (of_decide_eq_true t5) (of_decide_eq_true t6) (of_decide_eq_true t7) (of_decide_eq_true t8) (fun v => ?_) fx lk hcd Sc hb
    have z := TXv v
    unfold textB at z
    simp only [Bool.and_eq_true] at z
    exact (snd_all fuel).2 _ _ _ z.1
theorem facts_of (TX : Text S fuel) (L : Left S K) (KB : K.In base) (G : base.Ns mainGlobals mg) {n : Nat} (pr : Prom S K P w mg base n) : Facts (mkT S K none) n P w K mg base := by
  have look := L.look
  unfold lookB at look
  simp only [Bool.and_eq_true, List.all_eq_true] at look
  obtain ⟨k1, k2, k3, k4, k5⟩ := look
  have clsK : ∀ c, S.kcs.contains c = true → classB S K c = true := fun c hc => k2 c (by simpa using hc)
  have defAt : ∀ f F, S.P.fns[f]? = some F → ∃ e, S.defs[f]? = some e ∧ standsB S K f F e = true := fun f F hF => by
    obtain ⟨e, he, _⟩ := textsB_at (TX.tx K none) hF
    exact ⟨e, he, L.stands hF he⟩
  have methAt : ∀ f F c, S.P.fns[f]? = some F → F.ini = none → S.P.mc f = some c → ∃ a, S.kcs.contains c = true ∧ Meth K (cA S K c) (S.mn.getD f noN) a ∧ FnG P w K mg base (4 * n) a (SpF (mkT S K none) K n f) := fun f F c hF hi hm => by
    obtain ⟨e, he, st⟩ := defAt f F hF
    unfold standsB at st
    rw [hi, hm] at st
    simp only [Bool.and_eq_true] at st
    obtain ⟨s1, s2, s3, s4⟩ := st
    have ea : He.fAd K e.d.at_ = He.ma K (cA S K c) (S.mn.getD f noN) := by rw [of_decide_eq_true s2]; rfl
    have z := (pr f F e hF he).1 hi
    rw [ea] at z
    exact ⟨_, s3, He.meth_ok s4, z⟩
  constructor
  · intro x hx
    exact He.free_ok KB G (k1 x hx)
  · exact TX.rp
  · intro c f hl
    have z := k5 _ (TX.len c f hl)
    unfold lenB at z
    simp only [Bool.and_eq_true] at z
    obtain ⟨z1, z2⟩ := z
    refine ⟨TX.ck c z1, ?_⟩
    split at z2
    · rename_i F c' hF hm
      simp only [Bool.and_eq_true] at z2
      obtain ⟨y1, y2, y3⟩ := z2
      have e2 : c' = c := of_decide_eq_true y2
      subst e2
      obtain ⟨a, _, M, g⟩ := methAt f F c' hF (of_decide_eq_true y1) hm
      have e3 : S.mn.getD f noN = ("__len__" : Str) := of_decide_eq_true y3
      rw [e3] at M
      exact ⟨a, M.at_, M.fn, g⟩
    · cases z2
  · intro k d hd
    have z := globsB_at k3 hd
    rw [Nat.zero_add] at z
    unfold globB at z
    split at z
    · rename_i u hu
      obtain ⟨v, r1, r2⟩ := repB_ok (CT := (mkT S K none).CT) z
      exact ⟨u, v, PySem.W.mg_of KB G hu, r1, r2⟩
    · cases z
  · intro f F hF hi hm
    have hm : S.P.mc f = none := hm
    obtain ⟨e, he, st⟩ := defAt f F hF
    unfold standsB at st
    rw [hi, hm] at st
    simp only [Bool.and_eq_true] at st
    obtain ⟨s1, s2, s3⟩ := st
    have ea : He.fAd K e.d.at_ = He.ga K (S.fnm.getD f noN) := by rw [of_decide_eq_true s2]; rfl
    have z := (pr f F e hF he).1 hi
    have kp : PySem.W.keepIn K (.ref (He.fAd K e.d.at_)) = true := by
      unfold He.DefD.ok at s1
      simp only [Bool.and_eq_true] at s1
      exact s1.1
    rw [ea] at z kp
    exact ⟨_, He.glo_ok KB G s3, kp, z⟩
  · intro f F c hF hi
    obtain ⟨e, he, st⟩ := defAt f F hF
    unfold standsB at st
    rw [hi] at st
    simp only [Bool.and_eq_true] at st
    obtain ⟨s1, s2, s3, s4, s5⟩ := st
    have ea : He.fAd K e.d.at_ = He.ma K (cA S K c) "__init__" := by rw [of_decide_eq_true s2]; rfl
    have z := (pr f F e hF he).2 c hi
    rw [ea] at z
    have cc := clsK c s5
    unfold classB at cc
    simp only [Bool.and_eq_true] at cc
    refine ⟨_, ?_, He.mkr_ok s4, z⟩
    have g := He.glo_ok KB G cc.1
    rw [← of_decide_eq_true s3] at g
    show mg (S.fnm.getD f noN) = some (.ref (cA S K c))
    rw [g, of_decide_eq_true s3]
  · intro c hc
    have cc := clsK c (TX.kc c hc)
    unfold classB at cc
    simp only [Bool.and_eq_true, List.all_eq_true] at cc
    obtain ⟨c1, c2, c3, c4, c5, c6⟩ := cc
    refine ⟨He.glo_ok KB G c1, (clsB_ok c2).1, (clsB_ok c2).2, rfl, fun k f hk => ?_⟩
    have hk : (S.fl.getD c [])[k]? = some f := hk
    obtain ⟨p, sl, _⟩ := slotB_ok (c4 f (List.mem_of_getElem? hk))
    refine ⟨p, ?_⟩
    have hl : k < (S.fl.getD c []).length := (List.getElem?_eq_some_iff.mp hk).1
    have ef : (S.fl.getD c []).getD k noN = f := by rw [List.getD_eq_getElem?_getD, hk]; rfl
    show SlX.Slot1 K (cA S K c) f p (if k < (S.fl.getD c []).length then plcOf K (cA S K c) ((S.fl.getD c []).getD k noN) else 1000 + k)
    rw [if_pos hl, ef]
    exact sl
  · intro c hc k k' hkk
    have cc := clsK c (TX.kc c hc)
    unfold classB at cc
    simp only [Bool.and_eq_true, List.all_eq_true] at cc
    obtain ⟨c1, c2, c3, c4, c5, c6⟩ := cc
    have hkk : (if k < (S.fl.getD c []).length then plcOf K (cA S K c) ((S.fl.getD c []).getD k noN) else 1000 + k) = (if k' < (S.fl.getD c []).length then plcOf K (cA S K c) ((S.fl.getD c []).getD k' noN) else 1000 + k') := hkk
    have small : ∀ j, j < (S.fl.getD c []).length → plcOf K (cA S K c) ((S.fl.getD c []).getD j noN) < 1000 := fun j hj => by
      have : (S.fl.getD c []).getD j noN ∈ S.fl.getD c [] := by
        rw [getD_lt hj]
        exact List.getElem_mem hj
      obtain ⟨_, _, l⟩ := slotB_ok (c4 _ this)
      exact l
    by_cases h1 : k < (S.fl.getD c []).length <;> by_cases h2 : k' < (S.fl.getD c []).length
    · rw [if_pos h1, if_pos h2] at hkk
      have nd := distB_ok c5
      have z : ((S.fl.getD c []).map (plcOf K (cA S K c)))[k]? = ((S.fl.getD c []).map (plcOf K (cA S K c)))[k']? := by
        rw [getD_lt (l := S.fl.getD c []) h1, getD_lt (l := S.fl.getD c []) h2] at hkk
        rw [List.getElem?_map, List.getElem?_map, List.getElem?_eq_getElem h1, List.getElem?_eq_getElem h2]
        exact congrArg some hkk
      exact (List.getElem?_inj (by rw [List.length_map]; exact h1) nd).mp z
    · rw [if_pos h1, if_neg h2] at hkk
      have := small k h1
      omega
    · rw [if_neg h1, if_pos h2] at hkk
      have := small k' h2
      omega
    · rw [if_neg h1, if_neg h2] at hkk
      omega
  · intro c hc a ha
    have cc := clsK c (TX.kc c hc)
    unfold classB at cc
    simp only [Bool.and_eq_true, List.all_eq_true] at cc
    have z := cc.2.2.1
    unfold kitB at z
    simp only [List.all_eq_true, Bool.and_eq_true] at z
    have y := z a ha
    exact ⟨of_decide_eq_true y.1, of_decide_eq_true y.2⟩
  · intro c c' hc hc'
    have cc := clsK c (TX.kc c hc)
    unfold classB at cc
    simp only [Bool.and_eq_true, List.all_eq_true] at cc
    exact of_decide_eq_true (cc.2.2.2.2.2 c' (by simpa using TX.kc c' hc'))
  · intro f F c hF hi hm
    obtain ⟨a, kc, M, g⟩ := methAt f F c hF hi hm
    have cc := clsK c kc
    unfold classB at cc
    simp only [Bool.and_eq_true] at cc
    exact ⟨a, (clsB_ok cc.2.1).1, rfl, M, g⟩
theorem facts_all (TX : Text S fuel) (L : Left S K) (KB : K.In base) (G : base.Ns mainGlobals mg) : ∀ n, Prom S K P w mg base n
  | 0 => prom_zero
  | n + 1 => prom_succ TX L (facts_of TX L KB G (facts_all TX L KB G n))
end
/-! ### the Hook -/
abbrev AlP : Type := Bool × List He.FnW
def obsP (S : Spec) (K : PySem.W.Frag) : AlP := (lookB S K, S.defs.map fun e => He.fnW K e.d.at_)
def valP (S : Spec) : AlP := (true, S.defs.map fun e => e.d.val)
def obsPG (n : Nat) (S : Spec) (g : Addr → Option Obj) : AlP := obsP S (He.frG g (He.asD g n))
def hookP (n : Nat) (S : Spec) : PySem.W.Hook where
  α := AlP
  obs := fun s => obsPG n S s.heap.get?
  val := fun _ => valP S
  says := fun _ h => ∃ K : PySem.W.Frag, K.In h ∧ obsP S K = valP S
  of := fun _ _ e => ⟨_, He.frG_in, e⟩
  keeps := fun _ _ _ ⟨K, hK, c⟩ k => ⟨K, PySem.W.Frag.In.keeps hK k, c⟩
theorem obsPG_eq {n : Nat} {S : Spec} {g : Addr → Option Obj} {s : Shared} (h : ∀ a, g a = s.heap.get? a) : obsPG n S g = (hookP n S).obs s := by
  have e : g = s.heap.get? := funext h
  rw [e] <;> rfl
def obT (n : Nat) (S : Spec) (s : PySem.W.SharedT) : AlP := obsPG n S (HandSHeadRun.getT s)
theorem obT_eq (n : Nat) (S : Spec) (s : PySem.W.SharedT) : obT n S s = (hookP n S).obs s.abs := obsPG_eq (HandSHeadRun.getT_eq s)
theorem left_of {S : Spec} {K : PySem.W.Frag} (h : obsP S K = valP S) : Left S K := ⟨congrArg (fun z : AlP => z.1) h, congrArg (fun z : AlP => z.2) h⟩
/-- a law, from the run of its text -/
theorem walk_ofP {l : PySem.W.OpenLaw} {S : Spec} {fuel m : Nat} {q : Program} {loose : List Str} {XP : (Str → Option Value) → Heap → Prop} {d : DefRec} {f : Nat} {F : Fn} {e : DefE}
    (TX : Text S fuel) (hn : l.most = some 63) (hdf : d.params.defaults = []) (hr : Room (4 * m) callerA) (hF : S.P.fns[f]? = some F) (he : S.defs[f]? = some e) (hi : F.ini = none) (hm : S.P.mc f = none) (hx : d.name = S.fnm.getD f noN)
    (told : ∀ ns : List Int, ns.length ≤ 63 → ∃ o st, run S.P m f [.scr ns] [] = .ok (o, .bl true) st) {k : Nat} :
    PySem.W.WalkO q loose XP (hookP k S).says l.row.toRowW d [] (fun f vs => PySem.call f vs) := by
  refine Att.attach_call hn hdf fun w s₀ s₁ mg mb fa o pm cd doc a vs ns G Y ho hd hcd hmg hobj hints hlen hg => ?_
  obtain ⟨K, KX, c⟩ := Y
  have L := left_of c
  have st := L.stands hF he
  unfold standsB at st
  rw [hi, hm] at st
  simp only [Bool.and_eq_true] at st
  obtain ⟨s1, s2, s3⟩ := st
  have ea : He.fAd K e.d.at_ = He.ga K (S.fnm.getD f noN) := by rw [of_decide_eq_true s2]; rfl
  have hfa : fa = He.fAd K e.d.at_ := by
    have z := He.glo_ok KX G.T.g s3
    rw [← hx, hmg] at z
    rw [ea, ← hx]
    exact Value.ref.inj (Option.some.inj z)
  rw [hfa]
  refine told_of KX G.T.g G.T.b G.T.builtins G.T.nolimit hg hobj hints (Nat.le_trans hlen (by rw [szl]; decide)) hr (sp := SpF (mkT S K none) K m f) (fun base KB GB => ((facts_all TX L KB GB m) f F e hF he).1 hi) fun H hO hS => ?_
  obtain ⟨o, st, hr⟩ := told ns hlen
  refine ⟨[.scr ns], [], fun _ => True, [], ?_, ⟨rfl, List.nodup_nil, fun n a h => by simp at h⟩, fun _ _ => trivial, ?_⟩
  · unfold RepL
    refine ⟨.ref a, [], [], [], rfl, rfl, ?_, by unfold RepL; exact ⟨rfl, rfl⟩⟩
    unfold Rep
    exact ⟨⟨a, rfl, hS⟩, rfl, rfl⟩
  · show SatC K (mkT S K none).CT (fun _ _ _ => False) [] H (fun _ => True) (fun v _ => v = .bl true) (run S.P m f [.scr ns] [])
    rw [hr]
    intro x H' α' os p
    have z := p.rep
    unfold Rep at z
    exact z.1
end PD
/-! PL: laws of runs of PD texts -/
namespace PD
/-- a run that ends well -/
inductive Ok {α : Type} : R α → (α → Store → Prop) → Prop where
  | mk {a : α} {st : Store} {Q : α → Store → Prop} (h : Q a st) : Ok (.ok a st) Q
section
variable {α β : Type} {a : α} {st st' : Store} {f : α → Store → R β} {m : R α} {Q Q' : α → Store → Prop}
@[simp] theorem bind_ok : (R.ok a st).bind f = f a st := (rfl)
@[simp] theorem bind_exc {c : Nat} {ds : List D} : (R.exc c ds st : R α).bind f = .exc c ds st := (rfl)
@[simp] theorem bind_no : (R.no : R α).bind f = .no := (rfl)
@[simp] theorem of_some : R.of (some a) st = .ok a st := (rfl)
@[simp] theorem of_none : R.of (none : Option α) st = .no := (rfl)
@[simp] theorem noX_ok : (R.ok a st).noX = .ok a st := (rfl)
@[simp] theorem Ok_ok : Ok (.ok a st) Q = Q a st := propext ⟨fun h => by cases h; assumption, .mk⟩
@[simp] theorem Ok_exc {c : Nat} {ds : List D} : Ok (.exc c ds st : R α) Q = False := eq_false fun h => by cases h
@[simp] theorem Ok_no : Ok (.no : R α) Q = False := eq_false fun h => by cases h
theorem Ok.get (h : Ok (.ok a st) Q) : Q a st := by rwa [Ok_ok] at h
theorem Ok.bind {Q : β → Store → Prop} (h : Ok m Q') (k : ∀ a st, Q' a st → Ok (f a st) Q) : Ok (m.bind f) Q := by
  cases h with
  | mk h => exact k _ _ h
theorem Ok.noX (h : Ok m Q) : Ok m.noX Q := by
  cases h with
  | mk h => exact .mk h
theorem Ok.mono (h : Ok m Q) (k : ∀ a st, Q a st → Q' a st) : Ok m Q' := by
  cases h with
  | mk h => exact .mk (k _ _ h)
theorem Ok.of_eq (h : m = .ok a st) (q : Q a st) : Ok m Q := by rw [h]; exact .mk q
theorem Ok.ex (h : Ok m Q) : ∃ a st, m = .ok a st ∧ Q a st := by
  cases h with
  | mk h => exact ⟨_, _, rfl, h⟩
theorem Ok_bind {Q : β → Store → Prop} : Ok (m.bind f) Q ↔ Ok m fun a st => Ok (f a st) Q := by
  cases m <;> simp
end
theorem run_f {P : Pr} {n f : Nat} {F : Fn} {ds : List D} {st : Store} (hF : P.fns[f]? = some F) (hi : F.ini = none) : run P (n + 1) f ds st = if ds.length = F.np then fin (evSs (P.env n) P.wf F.body (startS F.ns ds) st) else .no := by
  show (match P.fns[f]? with | none => _ | some F => _) = _
  rw [hF]
  simp only
  rw [hi]
theorem run_i {P : Pr} {n f : Nat} {F : Fn} {ds : List D} {st : Store} {c : Nat} (hF : P.fns[f]? = some F) (hi : F.ini = some c) : run P (n + 1) f ds st = if ds.length + 1 = F.np then finI (evSs (P.env n) P.wf F.body (put 0 (.all, .ins c []) (startS F.ns (.non :: ds))) st) else .no := by
  show (match P.fns[f]? with | none => _ | some F => _) = _
  rw [hF]
  simp only
  rw [hi]


/-! ### the evaluator, case by case -/
def tst {α : Type} (o : Option Bool) (a b : R α) : R α := match o with
  | some true => a
  | some false => b
  | none => .no
section
variable {α : Type} {x y : R α} {b : Bool}
@[simp] theorem tst_some : tst (some b) x y = if b = true then x else y := by cases b <;> rfl
@[simp] theorem tst_none : tst (none : Option Bool) x y = .no := (rfl)
end
def onInt {α : Type} (d : D) (f : Int → R α) : R α := match d with
  | .int i => f i
  | _ => .no
@[simp] theorem onInt_int {α : Type} {i : Int} {f : Int → R α} : onInt (.int i) f = f i := (rfl)
section
variable {env : Env} {r : Rho} {st : Store} {op op' : Bop} {co co' : Cop} {a b c e t lo hi o elt k v cond : Ex} {es ks vs : Exs} {it it1 : It} {tg tg1 : Tg} {i f n m cc kk : Nat} {d : D} {ts : List Ty} {bi : Bi} {me : Me}

@[simp] theorem ev_lit : evE env (.lit d) r st = .ok (.all, d) st := (rfl)
def varR (o : Option (Option D)) (st : Store) : R VD := match o with
  | some (some d) => .ok (flatO d, d) st
  | _ => .no
@[simp] theorem varR_some {d : D} {st : Store} : varR (some (some d)) st = .ok (flatO d, d) st := (rfl)
@[simp] theorem ev_var : evE env (.var i) r st = varR r[i]? st := (rfl)
def globR (o : Option D) (st : Store) : R VD := match o with
  | some d => .ok (flatO d, d) st
  | _ => .no
@[simp] theorem globR_some {d : D} {st : Store} : globR (some d) st = .ok (flatO d, d) st := (rfl)
@[simp] theorem ev_glob : evE env (.glob kk) r st = globR env.gl[kk]? st := by
  show (match env.gl[kk]? with | some d => _ | none => _) = _
  cases env.gl[kk]? <;> rfl
@[simp] theorem ev_bin : evE env (.bin op a b) r st = (evE env a r st).bind fun x st => (evE env b r st).bind fun y st => .of (binD op x.2 y.2) st := (rfl)
@[simp] theorem ev_neg : evE env (.neg a) r st = (evE env a r st).bind fun x st => onInt x.2 fun i => .ok (.all, .int (-i)) st := (rfl)
@[simp] theorem ev_cmp : evE env (.cmp co a b) r st = (evE env a r st).bind fun x st => (evE env b r st).bind fun y st => .of ((cmpD co x.2 y.2).map fun c => (.all, .bl c)) st := (rfl)
@[simp] theorem ev_chain : evE env (.chain co co' a b c) r st = (evE env a r st).bind fun x st => (evE env b r st).bind fun y st => tst (cmpD co x.2 y.2) ((evE env c r st).bind fun z st => .of ((cmpD co' y.2 z.2).map fun c => (.all, .bl c)) st) (.ok (.all, .bl false) st) := (rfl)
@[simp] theorem ev_and : evE env (.andE a b) r st = (evE env a r st).bind fun x st => tst (truthD x.2) (evE env b r st) (.ok x st) := (rfl)
@[simp] theorem ev_or : evE env (.orE a b) r st = (evE env a r st).bind fun x st => tst (truthD x.2) (.ok x st) (evE env b r st) := by
  show (evE env a r st).bind _ = _
  congr 1
  funext x st
  cases truthD x.2 with
  | none => rfl
  | some b => cases b <;> rfl
@[simp] theorem ev_not : evE env (.notE a) r st = (evE env a r st).bind fun x st => .of ((truthD x.2).map fun c => (.all, .bl (!c))) st := (rfl)
@[simp] theorem ev_if : evE env (.ifE t a b) r st = (evE env t r st).bind fun x st => tst (truthD x.2) (evE env a r st) (evE env b r st) := (rfl)
@[simp] theorem ev_sub : evE env (.sub a e) r st = (evE env a r st).bind fun x st => (evE env e r st).bind fun y st => .of (subD st x.1 x.2 y.2) st := (rfl)
@[simp] theorem ev_slc : evE env (.slc a lo hi) r st = (evE env a r st).bind fun x st => (evE env lo r st).bind fun y st => if partOk y.2 then (evE env hi r st).bind fun z st => .of (slcD x.2 y.2 z.2) st else .no := (rfl)
@[simp] theorem ev_rev : evE env (.rev a) r st = (evE env a r st).bind fun x st => .of (revD x.2) st := (rfl)
@[simp] theorem ev_lst : evE env (.lst es) r st = (evEs env es r st).bind fun xs st => .ok (if xs.1 then .all else .top, .lst xs.2) st := (rfl)
@[simp] theorem ev_tup : evE env (.tup es) r st = (evEs env es r st).bind fun xs st => .ok (if xs.1 then .all else flatO (.tup xs.2), .tup xs.2) st := (rfl)
@[simp] theorem ev_dic : evE env (.dic ks vs) r st = (evEs env ks r st).bind fun kk st => (evEs env vs r st).bind fun vv st => if kk.2.all isKey ∧ kk.2.length = vv.2.length then .ok (if vv.1 then .all else .top, let p := putAll kk.2 vv.2 ([], []); .dic p.1 p.2) st else .no := (rfl)
@[simp] theorem ev_lc : evE env (.lc elt tg it cond) r st = (evIt env it r st).bind fun xs st => if maxLen < xs.length then .no else gather (lcF tg r (evE env cond) (evE env elt)) xs [] .all st := (rfl)
@[simp] theorem ev_lc2 : evE env (.lc2 elt tg it tg1 it1 cond) r st = (evIt env it r st).bind fun xs st => gather2 (lcG tg r (evIt env it1)) (fun r1 => lcF tg1 r1 (evE env cond) (evE env elt)) xs [] .all st := (rfl)
@[simp] theorem ev_dc : evE env (.dc k v tg it) r st = (evIt env it r st).bind fun xs st => if maxLen < xs.length then .no else gatherD (dcF tg r (evE env k) (evE env v)) xs [] [] .all st := (rfl)
@[simp] theorem ev_call : evE env (.call f es) r st = (evEs env es r st).bind fun xs st => env.cal f xs.2 st := (rfl)
@[simp] theorem ev_mcall : evE env (.mcall f o es) r st = (evE env o r st).bind fun x st => if insOf (env.mc f) x.2 then (evEs env es r st).bind fun xs st => env.cal f (x.2 :: xs.2) st else .no := (rfl)
@[simp] theorem ev_bi : evE env (.bi bi es) r st = (evEs env es r st).bind fun xs st => biD env st bi xs.2 := (rfl)
@[simp] theorem ev_meth : evE env (.meth me o es) r st = (evE env o r st).bind fun x st => if meOk me x.2 then (evEs env es r st).bind fun xs st => .of (meD me x.2 xs.2) st else .no := (rfl)
@[simp] theorem ev_isi : evE env (.isi a ts) r st = (evE env a r st).bind fun x st => if tyOk env.kc x.2 then .ok (.all, .bl (ts.any (tyD · x.2))) st else .no := (rfl)
def attrR (cc kk : Nat) (d : D) (st : Store) : R VD := match d with
  | .ins c' fs => if c' = cc then match fs[kk]? with
      | some d => .ok (if flat d then .all else .no, d) st
      | none => .no
    else .no
  | _ => .no
@[simp] theorem ev_attr : evE env (.attr o cc kk) r st = (evE env o r st).bind fun x st => attrR cc kk x.2 st := (rfl)
def boxR (x : VD) (st : Store) : R VD := match x with
  | (.all, .lst xs) => match intsOf xs with
    | some l => .ok (.all, .hnd st.length) (st ++ [.nums l])
    | none => .no
  | _ => .no
@[simp] theorem ev_sv : evE env (.sv a) r st = (evE env a r st).bind fun x st => .of (svD x.2) st := (rfl)
@[simp] theorem ev_ls : evE env (.ls a) r st = (evE env a r st).bind fun x st => .of (lsD x.2) st := (rfl)
@[simp] theorem ev_box : evE env (.box a) r st = (evE env a r st).bind fun x st => boxR x st := (rfl)
@[simp] theorem ev_nil : evEs env .nil r st = .ok (true, []) st := (rfl)
@[simp] theorem ev_cons : evEs env (.cons e es) r st = (evE env e r st).bind fun x st => (evEs env es r st).bind fun xs st => .ok (x.1 == .all && xs.1, x.2 :: xs.2) st := (rfl)
@[simp] theorem ev_itE : evIt env (.ex e) r st = (evE env e r st).bind fun x st => .of (seqD x.2) st := (rfl)
@[simp] theorem ev_rng1 : evIt env (.rng1 a) r st = (evE env a r st).bind fun x st => onInt x.2 fun i => if small i then .ok (rangeD 0 i) st else .no := (rfl)
theorem ev_rng2' : evIt env (.rng2 a b) r st = (evE env a r st).bind fun x st => (evE env b r st).bind fun y st => onInt x.2 fun i => onInt y.2 fun j => if small i && small j then .ok (rangeD i j) st else .no := by
  show (evE env a r st).bind _ = _
  congr 1
  funext x st
  congr 1
  funext y st
  cases x.2 <;> cases y.2 <;> rfl
@[simp] theorem ev_rng2 : evIt env (.rng2 a b) r st = (evE env a r st).bind fun x st => (evE env b r st).bind fun y st => onInt x.2 fun i => onInt y.2 fun j => if small i && small j then .ok (rangeD i j) st else .no := ev_rng2'
@[simp] theorem ev_enum : evIt env (.enum e) r st = (evE env e r st).bind fun x st => .of ((seqE x.2).map (enumD 0)) st := (rfl)
@[simp] theorem ev_zip2 : evIt env (.zip2 a b) r st = (evE env a r st).bind fun x st => (evE env b r st).bind fun y st => .of ((seqD x.2).bind fun xs => (seqD y.2).map fun ys => zip2D xs ys) st := (rfl)
@[simp] theorem ev_zip3 : evIt env (.zip3 a b c) r st = (evE env a r st).bind fun x st => (evE env b r st).bind fun y st => (evE env c r st).bind fun z st => .of ((seqD x.2).bind fun xs => (seqD y.2).bind fun ys => (seqD z.2).map fun zs => zip3D xs ys zs) st := (rfl)
@[simp] theorem ev_itrev : evIt env (.rev e) r st = (evE env e r st).bind fun x st => .of ((seqD x.2).map List.reverse) st := (rfl)
end
section
variable {op : Bop} {co co' : Cop} {a b c e t lo hi o elt k v cond : Ex} {es ks vs : Exs} {it it1 : It} {tg tg1 : Tg} {i f cc kk : Nat} {d : D} {ts : List Ty} {bi : Bi} {me : Me}
@[simp] theorem exV_lit : exV (.lit d) = [] := (rfl)
@[simp] theorem exV_var : exV (.var i) = [i] := (rfl)
@[simp] theorem exV_glob : exV (.glob kk) = [] := (rfl)
@[simp] theorem exV_bin : exV (.bin op a b) = exV a ++ exV b := (rfl)
@[simp] theorem exV_neg : exV (.neg a) = exV a := (rfl)
@[simp] theorem exV_cmp : exV (.cmp co a b) = exV a ++ exV b := (rfl)
@[simp] theorem exV_chain : exV (.chain co co' a b c) = exV a ++ (exV b ++ exV c) := (rfl)
@[simp] theorem exV_and : exV (.andE a b) = exV a ++ exV b := (rfl)
@[simp] theorem exV_or : exV (.orE a b) = exV a ++ exV b := (rfl)
@[simp] theorem exV_not : exV (.notE a) = exV a := (rfl)
@[simp] theorem exV_if : exV (.ifE t a b) = exV t ++ (exV a ++ exV b) := (rfl)
@[simp] theorem exV_sub : exV (.sub a b) = exV a ++ exV b := (rfl)
@[simp] theorem exV_slc : exV (.slc a lo hi) = exV a ++ (exV lo ++ exV hi) := (rfl)
@[simp] theorem exV_rev : exV (.rev a) = exV a := (rfl)
@[simp] theorem exV_lst : exV (.lst es) = exVs es := (rfl)
@[simp] theorem exV_tup : exV (.tup es) = exVs es := (rfl)
@[simp] theorem exV_dic : exV (.dic ks vs) = exVs ks ++ exVs vs := (rfl)
@[simp] theorem exV_lc : exV (.lc elt tg it cond) = itV it ++ (exV cond ++ exV elt) := (rfl)
@[simp] theorem exV_lc2 : exV (.lc2 elt tg it tg1 it1 cond) = itV it ++ (itV it1 ++ (exV cond ++ exV elt)) := (rfl)
@[simp] theorem exV_dc : exV (.dc k v tg it) = itV it ++ (exV k ++ exV v) := (rfl)
@[simp] theorem exV_call : exV (.call f es) = exVs es := (rfl)
@[simp] theorem exV_mcall : exV (.mcall f o es) = exV o ++ exVs es := (rfl)
@[simp] theorem exV_bi : exV (.bi bi es) = exVs es := (rfl)
@[simp] theorem exV_meth : exV (.meth me o es) = exV o ++ exVs es := (rfl)
@[simp] theorem exV_isi : exV (.isi a ts) = exV a := (rfl)
@[simp] theorem exV_attr : exV (.attr o cc kk) = exV o := (rfl)
@[simp] theorem exV_box : exV (.box a) = exV a := (rfl)
@[simp] theorem exV_sv : exV (.sv a) = exV a := (rfl)
@[simp] theorem exV_ls : exV (.ls a) = exV a := (rfl)
@[simp] theorem exV_nil : exVs .nil = [] := (rfl)
@[simp] theorem exV_cons : exVs (.cons e es) = exV e ++ exVs es := (rfl)
@[simp] theorem exV_itE : itV (.ex e) = exV e := (rfl)
@[simp] theorem exV_rng1 : itV (.rng1 a) = exV a := (rfl)
@[simp] theorem exV_rng2 : itV (.rng2 a b) = exV a ++ exV b := (rfl)
@[simp] theorem exV_enum : itV (.enum e) = exV e := (rfl)
@[simp] theorem exV_zip2 : itV (.zip2 a b) = exV a ++ exV b := (rfl)
@[simp] theorem exV_zip3 : itV (.zip3 a b c) = exV a ++ (exV b ++ exV c) := (rfl)
@[simp] theorem exV_itrev : itV (.rev e) = exV e := (rfl)
end
/-! ### statements -/
section
variable {env : Env} {wf : Nat} {r : SRho} {st : Store} {a b c e k : Ex} {es : Exs} {it : It} {tg : Tg} {i j n m cc kk : Nat} {is : List Nat} {ss sa sb : Sms} {s : Sm} {ms : Mvs} {d : D} {w : Own}
def asgTR (is : List Nat) (r : SRho) (v : VD) (st : Store) : R Fl := match v.2 with
  | .tup ds => match putsT v.1 is ds r with
    | some r' => .ok (.next r') st
    | none => .no
  | _ => .no
def nextO (o : Option SRho) (st : Store) : R Fl := match o with
  | some r => .ok (.next r) st
  | none => .no
@[simp] theorem nextO_some : nextO (some r) st = .ok (.next r) st := (rfl)
def appR (i : Nat) (vs : List Nat) (r : SRho) (o : Option (Option VD)) (m : R VD) : R Fl := match o with
  | some (some (o, .lst xs)) => if o ≠ .no ∧ xs.length < maxLen then m.bind fun v st => if v.1 ≠ .all ∧ i ∈ vs then .no else
      .ok (.next (put i (if v.1 = .all then o else .top, .lst (xs ++ [v.2])) (fz v.1 vs r))) st else .no
  | _ => .no
@[simp] theorem appR_lst {vs : List Nat} {o : Own} {xs : List D} {m : R VD} : appR i vs r (some (some (o, .lst xs))) m = if o ≠ .no ∧ xs.length < maxLen then m.bind fun v st => if v.1 ≠ .all ∧ i ∈ vs then .no else
      .ok (.next (put i (if v.1 = .all then o else .top, .lst (xs ++ [v.2])) (fz v.1 vs r))) st else .no := (rfl)
def setIR (i : Nat) (vs : List Nat) (r : SRho) (o : Option (Option VD)) (m : R VD) (mk : Store → R VD) : R Fl := match o with
  | some (some (o, .lst xs)) => if o ≠ .no then m.bind fun v st => if v.1 ≠ .all ∧ i ∈ vs then .no else (mk st).bind fun kv st => match kv.2 with
        | .int j => match place j xs.length with
          | some n => .ok (.next (put i (if v.1 = .all then o else .top, .lst (xs.set n v.2)) (fz v.1 vs r))) st
          | none => .no
        | _ => .no
      else .no
  | _ => .no
@[simp] theorem setIR_lst {vs : List Nat} {o : Own} {xs : List D} {m : R VD} {mk : Store → R VD} : setIR i vs r (some (some (o, .lst xs))) m mk = if o ≠ .no then m.bind fun v st => if v.1 ≠ .all ∧ i ∈ vs then .no else (mk st).bind fun kv st => onInt kv.2 fun j => nextO ((place j xs.length).map fun n => put i (if v.1 = .all then o else .top, .lst (xs.set n v.2)) (fz v.1 vs r)) st else .no := by
  show (if o ≠ .no then m.bind _ else .no) = _
  congr 1
  congr 1
  funext v st
  congr 1
  congr 1
  funext kv st
  cases kv.2 with
  | int j =>
    show (match place j xs.length with | some n => _ | none => _) = nextO _ _
    cases place j xs.length <;> rfl
  | _ => rfl
def setDR (i : Nat) (r : SRho) (o : Option (Option VD)) (m : R VD) (mk : Store → R VD) : R Fl := match o with
  | some (some (o, .dic ks vs)) => if o ≠ .no then m.bind fun v st => if v.1 = .all ∧ flat v.2 = true ∧ flatL vs = true ∧ ks.length < maxLen then (mk st).bind fun kv st => if isKey kv.2 then
        .ok (.next (put i (o, .dic (putD kv.2 v.2 ks vs).1 (putD kv.2 v.2 ks vs).2) r)) st else .no else .no else .no
  | _ => .no
@[simp] theorem setDR_dic {o : Own} {ks vs : List D} {m : R VD} {mk : Store → R VD} : setDR i r (some (some (o, .dic ks vs))) m mk = if o ≠ .no then m.bind fun v st => if v.1 = .all ∧ flat v.2 = true ∧ flatL vs = true ∧ ks.length < maxLen then (mk st).bind fun kv st => if isKey kv.2 then
        .ok (.next (put i (o, .dic (putD kv.2 v.2 ks vs).1 (putD kv.2 v.2 ks vs).2) r)) st else .no else .no else .no := (rfl)
def clrR (i : Nat) (r : SRho) (o : Option (Option VD)) (st : Store) : R Fl := match o with
  | some (some (o, .lst _)) => if o ≠ .no then .ok (.next (put i (.all, .lst []) r)) st else .no
  | _ => .no
@[simp] theorem clrR_lst {o : Own} {xs : List D} : clrR i r (some (some (o, .lst xs))) st = if o ≠ .no then .ok (.next (put i (.all, .lst []) r)) st else .no := (rfl)
def mvR (i : Nat) (r : SRho) (o : Option (Option VD)) (k : SRho → R (Bool × List D)) : R (Bool × List D) := match o with
  | some (some (o, d)) => (k (r.set i none)).bind fun xs st => .ok ((o == .all || flat d) && xs.1, d :: xs.2) st
  | _ => .no
@[simp] theorem mvR_some {o : Own} {k : SRho → R (Bool × List D)} : mvR i r (some (some (o, d))) k = (k (r.set i none)).bind fun xs st => .ok ((o == .all || flat d) && xs.1, d :: xs.2) st := (rfl)
@[simp] theorem mv_nil : evMv env .nil r st = .ok (true, []) st := (rfl)
@[simp] theorem mv_v : evMv env (.v i ms) r st = mvR i r r[i]? fun r => evMv env ms r st := by
  show (match r[i]? with | some (some (o, d)) => _ | _ => _) = _
  unfold mvR
  cases r[i]? with
  | none => rfl
  | some x => cases x <;> rfl
@[simp] theorem mv_e : evMv env (.e a ms) r st = (evE env a (view r) st).bind fun v st => (evMv env ms (fz v.1 (exV a) r) st).bind fun xs st => .ok (v.1 == .all && xs.1, v.2 :: xs.2) st := (rfl)
def setHR (r : SRho) (o : Option (Option VD)) (m : R VD) (mk : Store → R VD) : R Fl := match o with
  | some (some (_, .hnd n)) => m.bind fun v st => (mk st).bind fun kv st => match kv.2, v.2 with
      | .int j, .int z => match st[n]? with
        | some (.nums xs) => match place j xs.length with
          | some m => .ok (.next r) (st.set n (.nums (xs.set m z)))
          | none => .no
        | none => .no
      | _, _ => .no
  | _ => .no
def setHS (r : SRho) (n : Nat) (j z : Int) (c : Option Cell) (st : Store) : R Fl := match c with
  | some (.nums xs) => match place j xs.length with
    | some m => .ok (.next r) (st.set n (.nums (xs.set m z)))
    | none => .no
  | none => .no
@[simp] theorem setHS_some {z : Int} {jj : Int} {xs : List Int} : setHS r n jj z (some (.nums xs)) st = match place jj xs.length with
    | some m => .ok (.next r) (st.set n (.nums (xs.set m z)))
    | none => .no := (rfl)
@[simp] theorem setHR_hnd {o : Own} {m : R VD} {mk : Store → R VD} : setHR r (some (some (o, .hnd n))) m mk = m.bind fun v st => (mk st).bind fun kv st => onInt kv.2 fun j => onInt v.2 fun z => setHS r n j z st[n]? st := by
  show m.bind _ = _
  congr 1
  funext v st
  congr 1
  funext kv st
  cases kv.2 <;> cases v.2 <;> rfl
def fldR (cc k : Nat) (r : SRho) (vs : List Nat) (o : Option (Option VD)) (v : VD) (st : Store) : R Fl := match o with
    | some (some (o, .ins c fs)) => if o ≠ .no ∧ k = fs.length ∧ c = cc then
        .ok (.next (put 0 (if v.1 = .all then o else .top, .ins c (fs ++ [v.2])) (fz v.1 vs r))) st else .no
    | _ => .no
@[simp] theorem fldR_ins {vs : List Nat} {o : Own} {c' : Nat} {fs : List D} {v : VD} : fldR cc kk r vs (some (some (o, .ins c' fs))) v st = if o ≠ .no ∧ kk = fs.length ∧ c' = cc then
        .ok (.next (put 0 (if v.1 = .all then o else .top, .ins c' (fs ++ [v.2])) (fz v.1 vs r))) st else .no := (rfl)
def retVR (o : Option (Option VD)) (st : Store) : R Fl := match o with
  | some (some v) => .ok (.ret v) st
  | _ => .no
@[simp] theorem retVR_some {v : VD} : retVR (some (some v)) st = .ok (.ret v) st := (rfl)
def goOn (fl : Fl) (st : Store) (f : SRho → Store → R Fl) : R Fl := match fl with
  | .next r => f r st
  | fl => .ok fl st
@[simp] theorem goOn_next {f : SRho → Store → R Fl} : goOn (.next r) st f = f r st := (rfl)
@[simp] theorem goOn_ret {v : VD} {f : SRho → Store → R Fl} : goOn (.ret v) st f = .ok (.ret v) st := (rfl)
@[simp] theorem goOn_brk {f : SRho → Store → R Fl} : goOn (.brk r) st f = .ok (.brk r) st := (rfl)
@[simp] theorem goOn_cnt {f : SRho → Store → R Fl} : goOn (.cnt r) st f = .ok (.cnt r) st := (rfl)

@[simp] theorem es_asg : evS env wf (.asg i e) r st = (evE env e (view r) st).bind fun v st => .ok (.next (put i v (fz v.1 (exV e) r))) st := (rfl)
@[simp] theorem es_asgT : evS env wf (.asgT is e) r st = (evE env e (view r) st).bind fun v st => asgTR is (fz v.1 (exV e) r) v st := (rfl)
@[simp] theorem es_par : evS env wf (.par is es) r st = (evEs env es (view r) st).bind fun vs st => nextO (if vs.1 then putsT .all is vs.2 r else puts is vs.2 (frz (exVs es) r)) st := (rfl)
@[simp] theorem es_app : evS env wf (.app i e) r st = appR i (exV e) r r[i]? (evE env e (view r) st) := (rfl)
@[simp] theorem es_setI : evS env wf (.setI i k e) r st = setIR i (exV e) r r[i]? (evE env e (view r) st) (evE env k (view r)) := (rfl)
@[simp] theorem es_setH : evS env wf (.setH i k e) r st = setHR r r[i]? (evE env e (view r) st) (evE env k (view r)) := (rfl)
@[simp] theorem es_setD : evS env wf (.setD i k e) r st = setDR i r r[i]? (evE env e (view r) st) (evE env k (view r)) := (rfl)
@[simp] theorem es_clr : evS env wf (.clr i) r st = clrR i r r[i]? st := (rfl)
@[simp] theorem es_retT : evS env wf (.retT ms) r st = (evMv env ms r st).bind fun xs st => .ok (.ret (if xs.1 then .all else flatO (.tup xs.2), .tup xs.2)) st := (rfl)
@[simp] theorem es_fld : evS env wf (.fld cc kk e) r st = (evE env e (view r) st).bind fun v st => if v.1 ≠ .all ∧ 0 ∈ exV e then .no else fldR cc kk r (exV e) (r[0]? : Option (Option VD)) v st := (rfl)
@[simp] theorem es_exp : evS env wf (.exp e) r st = (evE env e (view r) st).bind fun _ st => .ok (.next r) st := (rfl)
@[simp] theorem es_ret : evS env wf (.ret e) r st = (evE env e (view r) st).bind fun v st => .ok (.ret v) st := (rfl)
@[simp] theorem es_retV : evS env wf (.retV i) r st = retVR r[i]? st := (rfl)
@[simp] theorem es_retN : evS env wf (.retN) r st = .ok (.ret (.all, .non)) st := (rfl)
@[simp] theorem es_pass : evS env wf (.pass) r st = .ok (.next r) st := (rfl)
@[simp] theorem es_if : evS env wf (.ifS c sa sb) r st = (evE env c (view r) st).bind fun x st => tst (truthD x.2) (evSs env wf sa r st) (evSs env wf sb r st) := (rfl)
@[simp] theorem es_for : evS env wf (.forS tg it sb) r st = (evIt env it (view r) st).bind fun xs st => loopF tg (evSs env wf sb) xs (frz (itV it) r) st := (rfl)
@[simp] theorem es_while : evS env wf (.whileS c sb) r st = loopW (fun r st => evE env c (view r) st) (fun r st => evSs env wf sb r st) wf r st := (rfl)
@[simp] theorem es_brk : evS env wf (.brk) r st = .ok (.brk r) st := (rfl)
@[simp] theorem es_cnt : evS env wf (.cnt) r st = .ok (.cnt r) st := (rfl)
@[simp] theorem es_raise : evS env wf (.raise cc es) r st = (evEs env es (view r) st).bind fun xs st => .exc cc xs.2 st := (rfl)
@[simp] theorem es_never : evS env wf (.never) r st = .no := (rfl)
@[simp] theorem es_nil : evSs env wf .nil r st = .ok (.next r) st := (rfl)
@[simp] theorem es_cons : evSs env wf (.cons s ss) r st = (evS env wf s r st).bind fun fl st => goOn fl st fun r st => evSs env wf ss r st := (rfl)
end
/-! ### data -/
section
variable {i j : Int} {s t : List Nat} {xs ys : List D} {x y : D} {o : Own} {b c : Bool} {st : Store} {n m : Nat} {d : D} {r : SRho} {w : Option VD} {is : List Nat} {ks vs : List D}
@[simp] theorem flatO_non : flatO .non = .all := (rfl)
@[simp] theorem flatO_bl : flatO (.bl b) = .all := (rfl)
@[simp] theorem flatO_int : flatO (.int i) = .all := (rfl)
@[simp] theorem flatO_str : flatO (.str s) = .all := (rfl)
@[simp] theorem flatO_hnd : flatO (.hnd n) = .all := (rfl)
@[simp] theorem flatO_lst : flatO (.lst xs) = .no := (rfl)
@[simp] theorem flatO_dic : flatO (.dic xs ys) = .no := (rfl)
@[simp] theorem flatO_ins : flatO (.ins n xs) = .no := (rfl)
@[simp] theorem flatO_scr {l : List Int} : flatO (.scr l) = .no := (rfl)
@[simp] theorem flat_non : flat .non = true := (rfl)
@[simp] theorem flat_bl : flat (.bl b) = true := (rfl)
@[simp] theorem flat_int : flat (.int i) = true := (rfl)
@[simp] theorem flat_str : flat (.str s) = true := (rfl)
@[simp] theorem flat_hnd : flat (.hnd n) = true := (rfl)
@[simp] theorem flat_lst : flat (.lst xs) = false := (rfl)
@[simp] theorem flat_dic : flat (.dic xs ys) = false := (rfl)
@[simp] theorem flat_ins : flat (.ins n xs) = false := (rfl)
@[simp] theorem flat_scr {l : List Int} : flat (.scr l) = false := (rfl)
@[simp] theorem flat_tup : flat (.tup xs) = flatL xs := (rfl)
@[simp] theorem flatL_nil : flatL [] = true := (rfl)
@[simp] theorem flatL_cons : flatL (x :: xs) = (flat x && flatL xs) := (rfl)
theorem flatO_tup : flatO (.tup xs) = if flatL xs then .all else .no := (rfl)
@[simp] theorem view_nil : view [] = [] := (rfl)
@[simp] theorem view_cons : view (w :: r) = (w.map Prod.snd) :: view r := (rfl)
@[simp] theorem fz_all {r : SRho} : fz .all is r = r := (rfl)
@[simp] theorem fz_no {r : SRho} : fz .no is r = frz is r := (rfl)
@[simp] theorem fz_top {r : SRho} : fz .top is r = frz is r := (rfl)
@[simp] theorem frz_nil {r : SRho} : frz [] r = r := (rfl)
@[simp] theorem frz_cons {r : SRho} : frz (n :: is) r = frz is (frz1 n r) := (rfl)
@[simp] theorem frz1_nil : frz1 n [] = [] := (rfl)
@[simp] theorem frz1_some : frz1 0 (some (o, d) :: r) = some (flatO d, d) :: r := (rfl)
@[simp] theorem frz1_none : frz1 0 (none :: r) = none :: r := (rfl)
@[simp] theorem frz1_succ : frz1 (n + 1) (w :: r) = w :: frz1 n r := by
  unfold frz1
  rw [List.getElem?_cons_succ]
  cases r[n]? with
  | none => rfl
  | some v =>
    cases v with
    | none => rfl
    | some v => rfl
@[simp] theorem put_zero {v : VD} : put 0 v (w :: r) = some v :: r := (rfl)
@[simp] theorem put_succ {v : VD} : put (n + 1) v (w :: r) = w :: put n v r := (rfl)
@[simp] theorem fin_ret {v : VD} : fin (.ok (.ret v) st) = .ok v st := (rfl)
@[simp] theorem fin_next {r : SRho} : fin (.ok (.next r) st) = .ok (.all, .non) st := (rfl)
@[simp] theorem fin_exc {ds : List D} : fin (.exc n ds st) = .exc n ds st := (rfl)
@[simp] theorem fin_no : fin .no = .no := (rfl)
@[simp] theorem finI_next {v : VD} : finI (.ok (.next (some v :: r)) st) = .ok v st := (rfl)
@[simp] theorem finI_exc {ds : List D} : finI (.exc n ds st) = .exc n ds st := (rfl)
theorem startS_0 : startS n [] = List.replicate n none := by simp [startS]
@[simp] theorem startS_nil : startS 0 ([] : List D) = [] := (rfl)
@[simp] theorem startS_none : startS (n + 1) [] = none :: startS n [] := (rfl)
@[simp] theorem startS_cons : startS (n + 1) (d :: xs) = some (flatO d, d) :: startS n xs := by simp [startS]
@[simp] theorem putsT_nil {r : SRho} : putsT o [] [] r = some r := (rfl)
@[simp] theorem putsT_cons {r : SRho} : putsT o (n :: is) (d :: xs) r = putsT o is xs (put n (if flat d then .all else o, d) r) := (rfl)
@[simp] theorem puts_nil {r : SRho} : puts [] [] r = some r := (rfl)
@[simp] theorem puts_cons {r : SRho} : puts (n :: is) (d :: xs) r = puts is xs (put n (flatO d, d) r) := (rfl)
@[simp] theorem bindS_nm {r : SRho} : bindS (.nm n) d r = some (put n (flatO d, d) r) := (rfl)
@[simp] theorem bindS_tp {r : SRho} : bindS (.tp is) (.tup xs) r = puts is xs r := (rfl)
@[simp] theorem asgTR_tup {r : SRho} : asgTR is r (o, .tup xs) st = nextO (putsT o is xs r) st := by
  show (match putsT o is xs r with | some r' => _ | none => _) = _
  cases putsT o is xs r <;> rfl
@[simp] theorem bindTg_nm {r : Rho} : bindTg (.nm n) d r = some (r.set n (some d)) := (rfl)
theorem bindTg_tp {r : Rho} : bindTg (.tp is) (.tup xs) r = if is.length = xs.length then some (setsR is xs r) else none := (rfl)
@[simp] theorem setsR_nil {r : Rho} {xs : List D} : setsR [] xs r = r := by cases xs <;> rfl
@[simp] theorem setsR_cons {r : Rho} : setsR (n :: is) (d :: xs) r = setsR is xs (r.set n (some d)) := (rfl)
-- operations
@[simp] theorem bin_add : binD .add (.int i) (.int j) = some (.all, .int (i + j)) := (rfl)
@[simp] theorem bin_adds : binD .add (.str s) (.str t) = if s.length + t.length ≤ maxLen then some (.all, .str (s ++ t)) else none := (rfl)
@[simp] theorem bin_addl : binD .add (.lst xs) (.lst ys) = if xs.length + ys.length ≤ maxLen then some (newO (xs ++ ys), .lst (xs ++ ys)) else none := (rfl)
@[simp] theorem bin_sub : binD .sub (.int i) (.int j) = some (.all, .int (i - j)) := (rfl)
@[simp] theorem bin_mul : binD .mul (.int i) (.int j) = if nlog i + nlog j < 1000000 then some (.all, .int (i * j)) else none := (rfl)
@[simp] theorem bin_muls : binD .mul (.str s) (.int j) = if s.length * j.toNat ≤ maxLen ∧ j < 1000000 ∧ -1000000 < j then some (.all, .str (rep j.toNat s)) else none := (rfl)
@[simp] theorem bin_mull : binD .mul (.lst xs) (.int j) = if xs.length * j.toNat ≤ maxLen ∧ j < 1000000 ∧ -1000000 < j then some (newO xs, .lst (rep j.toNat xs)) else none := (rfl)
@[simp] theorem bin_pow : binD .pow (.int i) (.int j) = if 0 ≤ j ∧ j ≤ 1000 ∧ i.natAbs < 18446744073709551616 then some (.all, .int (i ^ j.toNat)) else none := (rfl)
@[simp] theorem bin_mod : binD .mod (.int i) (.int j) = if 0 < j then some (.all, .int (i % j)) else none := (rfl)
@[simp] theorem bin_fdiv : binD .fdiv (.int i) (.int j) = if 0 < j ∧ nlog j < 9000 then some (.all, .int (i / j)) else none := (rfl)
@[simp] theorem cmp_lt : cmpD .lt (.int i) (.int j) = some (decide (i < j)) := (rfl)
@[simp] theorem cmp_le : cmpD .le (.int i) (.int j) = some (decide (i ≤ j)) := (rfl)
@[simp] theorem cmp_gt : cmpD .gt (.int i) (.int j) = some (decide (j < i)) := (rfl)
@[simp] theorem cmp_ge : cmpD .ge (.int i) (.int j) = some (decide (j ≤ i)) := (rfl)
@[simp] theorem deq_ii {k : Bool} : deqN k n (.int i) (.int j) = some (i == j) := by cases n <;> rfl
@[simp] theorem deq_ss {k : Bool} : deqN k n (.str s) (.str t) = some (s == t) := by cases n <;> rfl
@[simp] theorem deq_nn {k : Bool} : deqN k n .non .non = some true := by cases n <;> rfl
@[simp] theorem deq_bb {k : Bool} : deqN k n (.bl b) (.bl c) = some (b == c) := by cases n <;> rfl
@[simp] theorem deq_ni {k : Bool} : deqN k n .non (.int i) = some false := by cases n <;> rfl
@[simp] theorem deq_in {k : Bool} : deqN k n (.int i) .non = some false := by cases n <;> rfl
@[simp] theorem deq_ns {k : Bool} : deqN k n .non (.str s) = some false := by cases n <;> rfl
@[simp] theorem deq_sn {k : Bool} : deqN k n (.str s) .non = some false := by cases n <;> rfl
@[simp] theorem deq_ll {k : Bool} : deqN k (n + 1) (.lst xs) (.lst ys) = if xs.length = ys.length then allO (zw (deqN k n) xs ys) else some false := (rfl)
@[simp] theorem deq_tt {k : Bool} : deqN k (n + 1) (.tup xs) (.tup ys) = if xs.length = ys.length then allO (zw (deqN k n) xs ys) else (allO (zw (deqN k n) xs ys)).map fun _ => false := (rfl)
theorem deq_is : deq = deqN true 30 := rfl
theorem deqF_is : deqF = deqN false 30 := rfl
@[simp] theorem cmp_eqi : cmpD .eq (.int i) (.int j) = some (i == j) := (rfl)
@[simp] theorem cmp_eqs : cmpD .eq (.str s) (.str t) = some (s == t) := (rfl)
@[simp] theorem cmp_nei : cmpD .ne (.int i) (.int j) = some (!(i == j)) := (rfl)
@[simp] theorem cmp_nes : cmpD .ne (.str s) (.str t) = some (!(s == t)) := (rfl)
@[simp] theorem cmp_eql : cmpD .eq (.lst xs) (.lst ys) = deqN true 30 (.lst xs) (.lst ys) := (rfl)
@[simp] theorem cmp_nel : cmpD .ne (.lst xs) (.lst ys) = (deqN true 30 (.lst xs) (.lst ys)).map (!·) := (rfl)
@[simp] theorem cmp_eqt : cmpD .eq (.tup xs) (.tup ys) = deqN true 30 (.tup xs) (.tup ys) := (rfl)
@[simp] theorem cmp_net : cmpD .ne (.tup xs) (.tup ys) = (deqN true 30 (.tup xs) (.tup ys)).map (!·) := (rfl)
@[simp] theorem cmp_is_nn : cmpD .is .non .non = some true := (rfl)
@[simp] theorem cmp_is_in : cmpD .is (.int i) .non = some false := (rfl)
@[simp] theorem cmp_is_sn : cmpD .is (.str s) .non = some false := (rfl)
@[simp] theorem cmp_is_ln : cmpD .is (.lst xs) .non = some false := (rfl)
@[simp] theorem cmp_is_tn : cmpD .is (.tup xs) .non = some false := (rfl)
@[simp] theorem cmp_isnot_nn : cmpD .isnot .non .non = some false := (rfl)
@[simp] theorem cmp_isnot_in : cmpD .isnot (.int i) .non = some true := (rfl)
@[simp] theorem cmp_isnot_sn : cmpD .isnot (.str s) .non = some true := (rfl)
@[simp] theorem cmp_isnot_ln : cmpD .isnot (.lst xs) .non = some true := (rfl)
@[simp] theorem cmp_isnot_tn : cmpD .isnot (.tup xs) .non = some true := (rfl)
@[simp] theorem cmp_is_bb : cmpD .is (.bl b) (.bl c) = some (b == c) := (rfl)
@[simp] theorem cmp_isnot_bb : cmpD .isnot (.bl b) (.bl c) = some (b != c) := (rfl)
@[simp] theorem cmp_inn_l : cmpD .inn x (.lst ys) = anyO (ys.map (deqF · x)) := by cases x <;> rfl
@[simp] theorem cmp_inn_t : cmpD .inn x (.tup ys) = anyO (ys.map (deqF · x)) := by cases x <;> rfl
@[simp] theorem cmp_notin_l : cmpD .notin x (.lst ys) = (anyO (ys.map (deqF · x))).map (!·) := by cases x <;> rfl
@[simp] theorem cmp_notin_t : cmpD .notin x (.tup ys) = (anyO (ys.map (deqF · x))).map (!·) := by cases x <;> rfl
@[simp] theorem anyO_nil : anyO [] = some false := (rfl)
@[simp] theorem allO_nil : allO [] = some true := (rfl)
@[simp] theorem anyOc {l : List (Option Bool)} : anyO (some b :: l) = (anyO l).map (b || ·) := by
  show (match some b, anyO l with | some a, some b => some (a || b) | _, _ => none) = _
  cases anyO l <;> rfl
@[simp] theorem allOc {l : List (Option Bool)} : allO (some b :: l) = (allO l).map (b && ·) := by
  show (match some b, allO l with | some a, some b => some (a && b) | _, _ => none) = _
  cases allO l <;> rfl
@[simp] theorem zw_nil {f : D → D → Option Bool} : zw f [] ys = [] := (rfl)
@[simp] theorem zw_nil2 {f : D → D → Option Bool} : zw f xs [] = [] := by cases xs <;> rfl
@[simp] theorem zw_cons {f : D → D → Option Bool} : zw f (x :: xs) (y :: ys) = f x y :: zw f xs ys := (rfl)
@[simp] theorem truth_bl : truthD (.bl b) = some b := (rfl)
@[simp] theorem truth_non : truthD .non = some false := (rfl)
@[simp] theorem truth_int : truthD (.int i) = some (i != 0) := (rfl)
@[simp] theorem truth_lst : truthD (.lst xs) = some (!xs.isEmpty) := (rfl)
@[simp] theorem truth_str : truthD (.str s) = if s.length ≤ maxLen then some (!s.isEmpty) else none := (rfl)
@[simp] theorem sub_lst : subD st o (.lst xs) (.int i) = (place i xs.length).bind fun n => xs[n]?.map fun d => (if flat d then .all else child o, d) := by cases o <;> rfl
@[simp] theorem sub_tup : subD st o (.tup xs) (.int i) = (place i xs.length).bind fun n => xs[n]?.map fun d => (if flat d then .all else o, d) := by cases o <;> rfl
@[simp] theorem sub_str : subD st o (.str s) (.int i) = if s.length ≤ maxLen then (place i s.length).bind fun n => s[n]?.map fun c => (.all, .str [c]) else none := by cases o <;> rfl
@[simp] theorem sub_scr {l : List Int} : subD st o (.scr l) (.int i) = (place i l.length).bind fun n => l[n]?.map fun k => (.all, .int k) := by cases o <;> rfl
def subC (i : Int) (c : Option Cell) : Option VD := match c with
    | some (.nums xs) => (place i xs.length).bind fun n => xs[n]?.map fun k => (.all, .int k)
    | none => none
@[simp] theorem subC_some {l : List Int} : subC i (some (.nums l)) = (place i l.length).bind fun n => l[n]?.map fun k => (.all, .int k) := (rfl)
@[simp] theorem sub_hnd : subD st o (.hnd n) (.int i) = subC i st[n]? := by
  cases o <;> (show (match st[n]? with | some (.nums xs) => _ | none => _) = _; cases st[n]? with | none => rfl | some c => cases c; rfl)
@[simp] theorem place_nat : place (n : Int) m = if n < m then some n else none := by
  unfold place
  rw [if_pos (by omega)]
  simp
@[simp] theorem place_0 : place (0 : Int) m = if 0 < m then some 0 else none := place_nat (n := 0)
@[simp] theorem place_1 : place (1 : Int) m = if 1 < m then some 1 else none := place_nat (n := 1)
@[simp] theorem place_2 : place (2 : Int) m = if 2 < m then some 2 else none := place_nat (n := 2)
@[simp] theorem place_3 : place (3 : Int) m = if 3 < m then some 3 else none := place_nat (n := 3)
@[simp] theorem place_4 : place (4 : Int) m = if 4 < m then some 4 else none := place_nat (n := 4)
@[simp] theorem place_5 : place (5 : Int) m = if 5 < m then some 5 else none := place_nat (n := 5)
@[simp] theorem place_6 : place (6 : Int) m = if 6 < m then some 6 else none := place_nat (n := 6)
@[simp] theorem place_7 : place (7 : Int) m = if 7 < m then some 7 else none := place_nat (n := 7)
@[simp] theorem place_8 : place (8 : Int) m = if 8 < m then some 8 else none := place_nat (n := 8)
@[simp] theorem place_9 : place (9 : Int) m = if 9 < m then some 9 else none := place_nat (n := 9)
@[simp] theorem place_10 : place (10 : Int) m = if 10 < m then some 10 else none := place_nat (n := 10)
@[simp] theorem place_11 : place (11 : Int) m = if 11 < m then some 11 else none := place_nat (n := 11)
@[simp] theorem place_12 : place (12 : Int) m = if 12 < m then some 12 else none := place_nat (n := 12)
@[simp] theorem place_13 : place (13 : Int) m = if 13 < m then some 13 else none := place_nat (n := 13)
@[simp] theorem place_14 : place (14 : Int) m = if 14 < m then some 14 else none := place_nat (n := 14)
@[simp] theorem place_15 : place (15 : Int) m = if 15 < m then some 15 else none := place_nat (n := 15)
@[simp] theorem place_16 : place (16 : Int) m = if 16 < m then some 16 else none := place_nat (n := 16)
@[simp] theorem place_17 : place (17 : Int) m = if 17 < m then some 17 else none := place_nat (n := 17)
@[simp] theorem place_18 : place (18 : Int) m = if 18 < m then some 18 else none := place_nat (n := 18)
@[simp] theorem place_19 : place (19 : Int) m = if 19 < m then some 19 else none := place_nat (n := 19)
@[simp] theorem place_20 : place (20 : Int) m = if 20 < m then some 20 else none := place_nat (n := 20)
@[simp] theorem place_21 : place (21 : Int) m = if 21 < m then some 21 else none := place_nat (n := 21)
@[simp] theorem place_22 : place (22 : Int) m = if 22 < m then some 22 else none := place_nat (n := 22)
@[simp] theorem place_23 : place (23 : Int) m = if 23 < m then some 23 else none := place_nat (n := 23)
@[simp] theorem place_24 : place (24 : Int) m = if 24 < m then some 24 else none := place_nat (n := 24)
@[simp] theorem place_m1 : place (-1) m = if 1 ≤ m then some (m - 1) else none := by
  unfold place
  rw [if_neg (by omega)]
  simp
@[simp] theorem bnd_non : bnd .non n m = some m := (rfl)
theorem bnd_int : bnd (.int i) n m = some (if 0 ≤ i then min i.toNat n else n - (-i).toNat) := rfl
@[simp] theorem bnd_nat {k : Nat} : bnd (.int (k : Int)) n m = some (min k n) := by rw [bnd_int, if_pos (by omega)]; simp
@[simp] theorem bnd_nat1 {k : Nat} : bnd (.int ((k : Int) + 1)) n m = some (min (k + 1) n) := by rw [bnd_int, if_pos (by omega)]; rfl
@[simp] theorem bnd_1 : bnd (.int 1) n m = some (min 1 n) := bnd_nat (k := 1)
@[simp] theorem bnd_0 : bnd (.int 0) n m = some 0 := by rw [bnd_int, if_pos (by omega)]; simp
@[simp] theorem bnd_m1 : bnd (.int (-1)) n m = some (n - 1) := by rw [bnd_int, if_neg (by omega)]; rfl
@[simp] theorem partOk_non : partOk .non = true := (rfl)
@[simp] theorem partOk_int : partOk (.int i) = true := (rfl)
@[simp] theorem slc_lst {lo hi : D} : slcD (.lst xs) lo hi = (bnd lo xs.length 0).bind fun a => (bnd hi xs.length xs.length).map fun b => (newO xs, .lst (cut xs a b)) := (rfl)
@[simp] theorem slc_scr {l : List Int} {lo hi : D} : slcD (.scr l) lo hi = (bnd lo l.length 0).bind fun a => (bnd hi l.length l.length).map fun b => (.all, .lst ((cut l a b).map .int)) := (rfl)
@[simp] theorem slc_str {lo hi : D} : slcD (.str s) lo hi = if s.length ≤ maxLen then (bnd lo s.length 0).bind fun a => (bnd hi s.length s.length).map fun b => (.all, .str (cut s a b)) else none := (rfl)
@[simp] theorem rev_lst : revD (.lst xs) = some (newO xs, .lst xs.reverse) := (rfl)
@[simp] theorem rev_str : revD (.str s) = if s.length ≤ maxLen then some (.all, .str s.reverse) else none := (rfl)
@[simp] theorem attrR_ins {cc kk : Nat} : attrR cc kk (.ins n xs) st = if n = cc then match xs[kk]? with
      | some d => .ok (if flat d then .all else .no, d) st
      | none => .no
    else .no := (rfl)
@[simp] theorem seq_lst : seqD (.lst xs) = some xs := (rfl)
@[simp] theorem seq_tup : seqD (.tup xs) = some xs := (rfl)
@[simp] theorem seq_str : seqD (.str s) = some (s.map fun c => .str [c]) := (rfl)
@[simp] theorem seqE_lst : seqE (.lst xs) = some xs := (rfl)
@[simp] theorem seqE_tup : seqE (.tup xs) = some xs := (rfl)
@[simp] theorem seqE_str : seqE (.str s) = some (s.map fun c => .str [c]) := (rfl)
section
variable {env : Env}
@[simp] theorem bi_len_str : biD env st .len [.str s] = if s.length ≤ maxLen then .ok (.all, .int s.length) st else .no := (rfl)
@[simp] theorem bi_len_lst : biD env st .len [.lst xs] = .ok (.all, .int xs.length) st := (rfl)
@[simp] theorem bi_len_tup : biD env st .len [.tup xs] = .ok (.all, .int xs.length) st := (rfl)
@[simp] theorem bi_len_scr {l : List Int} : biD env st .len [.scr l] = .ok (.all, .int l.length) st := (rfl)
@[simp] theorem bi_len_dic : biD env st .len [.dic xs ys] = .ok (.all, .int xs.length) st := (rfl)
def lenR (f : Option Nat) (env : Env) (c : Nat) (fs : List D) (st : Store) : R VD := match f with
    | some f => (env.cal f [.ins c fs] st).bind fun v st => onInt v.2 fun i => if 0 ≤ i ∧ i < 1000000000 then .ok (.all, .int i) st else .no
    | none => .no
@[simp] theorem lenR_some {f : Nat} : lenR (some f) env n xs st = (env.cal f [.ins n xs] st).bind fun v st => onInt v.2 fun i => if 0 ≤ i ∧ i < 1000000000 then .ok (.all, .int i) st else .no := (rfl)
@[simp] theorem bi_len_ins : biD env st .len [.ins n xs] = lenR (env.lenF n) env n xs st := by
  show (match env.lenF n with | some f => _ | none => _) = _
  cases env.lenF n <;> rfl
@[simp] theorem bi_int_int : biD env st .int [.int i] = .ok (.all, .int i) st := (rfl)
@[simp] theorem bi_int_bl : biD env st .int [.bl b] = .ok (.all, .int (if b then 1 else 0)) st := (rfl)
@[simp] theorem bi_repr : biD env st .repr [d] = .of ((env.rp d).map fun t => (.all, .str t)) st := (rfl)
@[simp] theorem bi_sum : biD env st .sum [.lst xs] = .of ((intsOf xs).map fun l => (.all, .int l.sum)) st := (rfl)
@[simp] theorem bi_max2 : biD env st .max2 [.int i, .int j] = .ok (.all, .int (if j > i then j else i)) st := (rfl)
@[simp] theorem bi_min2 : biD env st .min2 [.int i, .int j] = .ok (.all, .int (if j < i then j else i)) st := (rfl)
@[simp] theorem bi_all : biD env st .all [.lst xs] = .of ((boolsOf xs).map fun l => (.all, .bl (l.all id))) st := (rfl)
@[simp] theorem bi_any : biD env st .any [.lst xs] = .of ((boolsOf xs).map fun l => (.all, .bl (l.any id))) st := (rfl)
@[simp] theorem bi_list_lst : biD env st .list [.lst xs] = .ok (newO xs, .lst xs) st := (rfl)
@[simp] theorem bi_list_tup : biD env st .list [.tup xs] = .ok (newO xs, .lst xs) st := (rfl)
@[simp] theorem bi_list_str : biD env st .list [.str s] = if s.length ≤ maxLen then .ok (.all, .lst (s.map fun c => .str [c])) st else .no := (rfl)
@[simp] theorem bi_tuple_lst : biD env st .tuple [.lst xs] = .ok (flatO (.tup xs), .tup xs) st := (rfl)
@[simp] theorem bi_tuple_tup : biD env st .tuple [.tup xs] = .ok (flatO (.tup xs), .tup xs) st := (rfl)
@[simp] theorem bi_tuple_str : biD env st .tuple [.str s] = if s.length ≤ maxLen then .ok (.all, .tup (s.map fun c => .str [c])) st else .no := (rfl)
end
@[simp] theorem me_index_lst : meD .index (.lst xs) [x] = if xs.length ≤ maxLen then (findIx x xs).map fun (n : Nat) => (Own.all, D.int (n : Int)) else none := (rfl)
@[simp] theorem me_indexT : meD .indexT (.tup xs) [x] = if xs.length ≤ maxLen then (findIx x xs).map fun (n : Nat) => (Own.all, D.int (n : Int)) else none := (rfl)
@[simp] theorem me_index_str : meD .index (.str s) [.str [n]] = if s.length ≤ maxLen then (firstT (s.map (· == n))).map fun (n : Nat) => (Own.all, D.int (n : Int)) else none := (rfl)
@[simp] theorem me_upper : meD .upper (.str s) [] = if s.length ≤ maxLen ∧ s.all (fun c => decide (c < 128)) then some (.all, .str (s.map fun c => if 97 ≤ c ∧ c ≤ 122 then c - 32 else c)) else none := (rfl)
@[simp] theorem me_join : meD .join (.str s) [.lst xs] = (strsOf xs).bind fun l => if (joinS s l).length ≤ maxLen ∧ s.length ≤ maxLen then some (.all, .str (joinS s l)) else none := (rfl)
@[simp] theorem meOk_g2 : meOk .get2 (.dic ks vs) = true := (rfl)
def get2R (o : Option D) (d : D) : VD := match o with
  | some v => (flatO v, v)
  | none => (flatO d, d)
@[simp] theorem get2R_some : get2R (some x) d = (flatO x, x) := (rfl)
@[simp] theorem get2R_none : get2R none d = (flatO d, d) := (rfl)
@[simp] theorem me_get2 : meD .get2 (.dic ks vs) [x, d] = if isKey x then some (get2R (lookD x ks vs) d) else none := by
  show (if isKey x then (match lookD x ks vs with | some v => _ | none => _) else none) = _
  unfold get2R
  cases lookD x ks vs <;> rfl
@[simp] theorem isKey_str : isKey (.str s) = true := (rfl)
@[simp] theorem isKey_int : isKey (.int i) = true := (rfl)
@[simp] theorem svD_dic : svD (.dic ks vs) = (intsOf vs).bind fun l => if l.length < 64 then some (.all, .lst ((sortI l).map .int)) else none := (rfl)
@[simp] theorem meOk_il : meOk .index (.lst xs) = true := (rfl)
@[simp] theorem meOk_is : meOk .index (.str s) = true := (rfl)
@[simp] theorem meOk_it : meOk .indexT (.tup xs) = true := (rfl)
@[simp] theorem meOk_u : meOk .upper (.str s) = true := (rfl)
@[simp] theorem meOk_j : meOk .join (.str s) = true := (rfl)
section
variable {kc : Nat → Bool}
@[simp] theorem tyOk_non : tyOk kc .non = true := (rfl)
@[simp] theorem tyOk_bl : tyOk kc (.bl b) = true := (rfl)
@[simp] theorem tyOk_int : tyOk kc (.int i) = true := (rfl)
@[simp] theorem tyOk_str : tyOk kc (.str s) = true := (rfl)
@[simp] theorem tyOk_lst : tyOk kc (.lst xs) = true := (rfl)
@[simp] theorem tyOk_tup : tyOk kc (.tup xs) = true := (rfl)
@[simp] theorem tyOk_dic : tyOk kc (.dic xs ys) = true := (rfl)
@[simp] theorem tyOk_ins : tyOk kc (.ins n xs) = kc n := (rfl)
end
@[simp] theorem ty_int_int : tyD .int (.int i) = true := (rfl)
@[simp] theorem ty_int_bl : tyD .int (.bl b) = true := (rfl)
@[simp] theorem ty_int_non : tyD .int .non = false := (rfl)
@[simp] theorem ty_int_str : tyD .int (.str s) = false := (rfl)
@[simp] theorem ty_int_lst : tyD .int (.lst xs) = false := (rfl)
@[simp] theorem ty_int_tup : tyD .int (.tup xs) = false := (rfl)
@[simp] theorem ty_int_dic : tyD .int (.dic xs ys) = false := (rfl)
@[simp] theorem ty_bool_bl : tyD .bool (.bl b) = true := (rfl)
@[simp] theorem ty_bool_int : tyD .bool (.int i) = false := (rfl)
@[simp] theorem ty_bool_str : tyD .bool (.str s) = false := (rfl)
@[simp] theorem ty_str_str : tyD .str (.str s) = true := (rfl)
@[simp] theorem ty_str_int : tyD .str (.int i) = false := (rfl)
@[simp] theorem ty_str_bl : tyD .str (.bl b) = false := (rfl)
@[simp] theorem ty_str_non : tyD .str .non = false := (rfl)
@[simp] theorem ty_str_lst : tyD .str (.lst xs) = false := (rfl)
@[simp] theorem ty_str_tup : tyD .str (.tup xs) = false := (rfl)
@[simp] theorem ty_str_dic : tyD .str (.dic xs ys) = false := (rfl)
@[simp] theorem ty_str_ins : tyD .str (.ins n xs) = false := (rfl)
@[simp] theorem ty_list_lst : tyD .list (.lst xs) = true := (rfl)
@[simp] theorem ty_tuple_tup : tyD .tuple (.tup xs) = true := (rfl)
@[simp] theorem ty_tuple_lst : tyD .tuple (.lst xs) = false := (rfl)
@[simp] theorem ty_list_tup : tyD .list (.tup xs) = false := (rfl)
@[simp] theorem ty_list_non : tyD .list .non = false := (rfl)
@[simp] theorem ty_tuple_non : tyD .tuple .non = false := (rfl)
@[simp] theorem ty_list_int : tyD .list (.int i) = false := (rfl)
@[simp] theorem ty_tuple_int : tyD .tuple (.int i) = false := (rfl)
@[simp] theorem ty_list_str : tyD .list (.str s) = false := (rfl)
@[simp] theorem ty_tuple_str : tyD .tuple (.str s) = false := (rfl)
@[simp] theorem ty_cls_ins : tyD (.cls m) (.ins n xs) = (m == n) := (rfl)
@[simp] theorem insOf_ins : insOf (some m) (.ins n xs) = (m == n) := (rfl)
@[simp] theorem boxR_all : boxR (.all, .lst xs) st = match intsOf xs with
    | some l => .ok (.all, .hnd st.length) (st ++ [.nums l])
    | none => .no := (rfl)
@[simp] theorem intsOf_nil : intsOf [] = some [] := (rfl)
@[simp] theorem intsOf_cons : intsOf (.int i :: xs) = (intsOf xs).map (i :: ·) := (rfl)
@[simp] theorem boolsOf_nil : boolsOf [] = some [] := (rfl)
@[simp] theorem boolsOf_cons : boolsOf (.bl b :: xs) = (boolsOf xs).map (b :: ·) := (rfl)
@[simp] theorem strsOf_nil : strsOf [] = some [] := (rfl)
@[simp] theorem strsOf_cons : strsOf (.str s :: xs) = (strsOf xs).map (s :: ·) := (rfl)
theorem boolsOf_map {α : Type} {f : α → Bool} : ∀ {l : List α}, boolsOf (l.map fun a => .bl (f a)) = some (l.map f)
  | [] => rfl
  | a :: l => by rw [List.map_cons, boolsOf_cons, boolsOf_map]; rfl
theorem strsOf_map {α : Type} {f : α → List Nat} : ∀ {l : List α}, strsOf (l.map fun a => .str (f a)) = some (l.map f)
  | [] => rfl
  | a :: l => by rw [List.map_cons, strsOf_cons, strsOf_map]; rfl
theorem intsOf_map {α : Type} {f : α → Int} : ∀ {l : List α}, intsOf (l.map fun a => .int (f a)) = some (l.map f)
  | [] => rfl
  | a :: l => by rw [List.map_cons, intsOf_cons, intsOf_map]; rfl
@[simp] theorem intsOf_ints : ∀ {l : List Int}, intsOf (l.map D.int) = some l
  | [] => rfl
  | a :: l => by rw [List.map_cons, intsOf_cons, intsOf_ints]; rfl
theorem joinS_nil : ∀ {l : List (List Nat)}, joinS [] l = l.flatten
  | [] => rfl
  | [x] => by simp [joinS]
  | x :: y :: l => by
    show x ++ [] ++ joinS [] (y :: l) = _
    rw [joinS_nil]
    simp
theorem rangeD_nat : rangeD 0 (n : Int) = (List.range n).map fun k => .int (k : Int) := by
  have key : ∀ (n : Nat) (lo : Nat), intRange (lo : Int) n = (List.range' lo n).map fun (k : Nat) => D.int (k : Int) := by
    intro n
    induction n with
    | zero => intro lo; rfl
    | succ n ih =>
      intro lo
      show D.int (lo : Int) :: intRange ((lo : Int) + 1) n = _
      rw [show (lo : Int) + 1 = ((lo + 1 : Nat) : Int) by omega, ih (lo + 1), List.range'_succ, List.map_cons]
  unfold rangeD
  rw [show ((n : Int) - 0).toNat = n by omega]
  have := key n 0
  rw [List.range_eq_range']
  exact this
theorem enumD_str (k : Nat) : ∀ (s : List Nat), enumD (k : Int) (s.map fun c => D.str [c]) = (s.zipIdx k).map fun p => D.tup [.int (p.2 : Int), .str [p.1]]
  | [] => rfl
  | c :: s => by
    show D.tup [.int (k : Int), .str [c]] :: enumD ((k : Int) + 1) (s.map fun c => D.str [c]) = _
    rw [show (k : Int) + 1 = ((k + 1 : Nat) : Int) by omega, enumD_str (k + 1) s, List.zipIdx_cons, List.map_cons]
theorem small_nat (h : n < 1000000000) : small (n : Int) = true := by
  unfold small
  simp
  omega
@[simp] theorem newO_nil : newO [] = .all := (rfl)
theorem newO_flat (h : flatL xs = true) : newO xs = .all := by unfold newO; rw [if_pos h]
theorem flatL_map {α : Type} {f : α → D} (h : ∀ a, flat (f a) = true) : ∀ {l : List α}, flatL (l.map f) = true
  | [] => rfl
  | a :: l => by rw [List.map_cons, flatL_cons, h a, flatL_map h]; rfl
theorem rep_strc {a : Nat} : rep n [a] = List.replicate n a := by
  unfold rep
  induction n with
  | zero => rfl
  | succ n ih => rw [List.replicate_succ, List.flatten_cons, ih, List.replicate_succ]; rfl
theorem rep_one {α : Type} {a : α} : rep n [a] = List.replicate n a := by
  unfold rep
  induction n with
  | zero => rfl
  | succ n ih => rw [List.replicate_succ, List.flatten_cons, ih, List.replicate_succ]; rfl
end
theorem nlog_lt {i : Int} {k : Nat} (h : i.natAbs < 2 ^ k) (hk : 0 < k) : nlog i < k := by
  unfold nlog
  by_cases z : i.natAbs = 0
  · rw [z]; simpa using hk
  · exact (Nat.log2_lt z).mpr h

/-! ### walks that gather -/
/-- what a turn of a list comprehension without effects gives -/
theorem gather_pure {f : D → Store → R (Option VD)} {st : Store} {α : Type} (g : α → D) (h : α → Option D) : ∀ (l : List α) (acc : List D), (∀ a ∈ l, f (g a) st = .ok ((h a).map fun d => (.all, d)) st) → gather f (l.map g) acc .all st = .ok (.all, .lst (acc.reverse ++ l.filterMap h)) st
  | [], acc, _ => by
    show R.ok (Own.all, D.lst acc.reverse) st = _
    simp
  | a :: l, acc, hf => by
    show (f (g a) st).bind _ = _
    rw [hf a (by simp), bind_ok]
    cases q : h a with
    | none =>
      show gather f (l.map g) acc .all st = _
      rw [gather_pure g h l acc fun b hb => hf b (by simp [hb])]
      simp [q]
    | some d =>
      show gather f (l.map g) (d :: acc) (if Own.all = .all ∧ Own.all = .all then .all else .top) st = _
      rw [if_pos ⟨rfl, rfl⟩, gather_pure g h l (d :: acc) fun b hb => hf b (by simp [hb])]
      simp [q]
/-- .. whose items are not wholly new: any but all -/
theorem gather_top {f : D → Store → R (Option VD)} {st : Store} {α : Type} (g : α → D) (h : α → Option D) (u : α → Own) : ∀ (l : List α) (acc : List D), (∀ a ∈ l, u a ≠ .all ∧ f (g a) st = .ok ((h a).map fun d => (u a, d)) st) → ∀ o, gather f (l.map g) acc o st = .ok (if (l.filterMap h).isEmpty then o else .top, .lst (acc.reverse ++ l.filterMap h)) st
  | [], acc, _, o => by
    show R.ok (o, D.lst acc.reverse) st = _
    simp
  | a :: l, acc, hf, o => by
    show (f (g a) st).bind _ = _
    obtain ⟨hu, he⟩ := hf a (by simp)
    rw [he, bind_ok]
    cases q : h a with
    | none =>
      show gather f (l.map g) acc o st = _
      rw [gather_top g h u l acc (fun b hb => hf b (by simp [hb])) o]
      simp [q]
    | some d =>
      show gather f (l.map g) (d :: acc) (if o = .all ∧ u a = .all then .all else .top) st = _
      rw [if_neg (fun z => hu z.2), gather_top g h u l (d :: acc) (fun b hb => hf b (by simp [hb])) .top]
      simp [q]
/-- with effects: all items wholly new -/
theorem gather_ok {f : D → Store → R (Option VD)} {α : Type} (g : α → D) (I : Nat → Store → Prop) (T : D → Prop) : ∀ (l : List α) (acc : List D) (k : Nat) (st : Store), I k st → (∀ a ∈ l, ∀ j st, j < k + l.length → I j st → Ok (f (g a) st) fun v st' => ∃ d, v = some (.all, d) ∧ T d ∧ I (j + 1) st') →
    Ok (gather f (l.map g) acc .all st) fun v st' => ∃ ds, v = (.all, .lst (acc.reverse ++ ds)) ∧ ds.length = l.length ∧ (∀ d ∈ ds, T d) ∧ I (k + l.length) st'
  | [], acc, k, st, i, _ => .mk ⟨[], by simp, rfl, fun _ z => (by cases z), i⟩
  | a :: l, acc, k, st, i, hf => by
    show Ok ((f (g a) st).bind _) _
    refine Ok.bind (hf a (by simp) k st (by simp) i) ?_
    rintro v st1 ⟨d, rfl, ht, i1⟩
    show Ok (gather f (l.map g) (d :: acc) (if Own.all = .all ∧ Own.all = .all then .all else .top) st1) _
    rw [if_pos ⟨rfl, rfl⟩]
    refine Ok.mono (gather_ok g I T l (d :: acc) (k + 1) st1 i1 fun b hb j st hj => hf b (by simp [hb]) j st (by rw [List.length_cons]; omega)) ?_
    rintro v st2 ⟨ds, rfl, hl, hT, i2⟩
    refine ⟨d :: ds, by simp, by simp [hl], fun x hx => ?_, ?_⟩
    · rcases List.mem_cons.mp hx with z | z
      · rw [z]; exact ht
      · exact hT x z
    · rw [List.length_cons, show k + (l.length + 1) = k + 1 + l.length by omega]
      exact i2
/-! ### loops -/
/-- what stays to be gone through, the names, the store -/
theorem loopF_ok {tg : Tg} {f : SRho → Store → R Fl} {Q : Fl → Store → Prop} (I : List D → SRho → Store → Prop) (step : ∀ x xs r st, I (x :: xs) r st → ∃ r', bindS tg x r = some r' ∧ Ok (f r' st) fun fl st' => match fl with
      | .next r => I xs r st'
      | .cnt r => I xs r st'
      | .brk r => Q (.next r) st'
      | .ret v => Q (.ret v) st') (done : ∀ r st, I [] r st → Q (.next r) st) : ∀ (xs : List D) (r : SRho) (st : Store), I xs r st → Ok (loopF tg f xs r st) Q
  | [], r, st, i => .mk (done r st i)
  | x :: xs, r, st, i => by
    obtain ⟨r', hb, h⟩ := step x xs r st i
    show Ok (match bindS tg x r with | none => _ | some r' => _) Q
    rw [hb]
    refine Ok.bind h ?_
    intro fl st' h'
    cases fl with
    | next r => exact loopF_ok I step done xs r st' h'
    | cnt r => exact loopF_ok I step done xs r st' h'
    | brk r => exact .mk h'
    | ret v => exact .mk h'
@[simp] theorem loopF_nil {tg : Tg} {f : SRho → Store → R Fl} {r : SRho} {st : Store} : loopF tg f [] r st = .ok (.next r) st := (rfl)
def loopK (tg : Tg) (f : SRho → Store → R Fl) (xs : List D) (o : Option SRho) (st : Store) : R Fl := match o with
  | none => .no
  | some r' => (f r' st).bind fun fl st => match fl with
      | .next r => loopF tg f xs r st
      | .cnt r => loopF tg f xs r st
      | .brk r => .ok (.next r) st
      | .ret v => .ok (.ret v) st
def loopG (tg : Tg) (f : SRho → Store → R Fl) (xs : List D) (fl : Fl) (st : Store) : R Fl := match fl with
      | .next r => loopF tg f xs r st
      | .cnt r => loopF tg f xs r st
      | .brk r => .ok (.next r) st
      | .ret v => .ok (.ret v) st
section
variable {tg : Tg} {f : SRho → Store → R Fl} {xs : List D} {x : D} {r : SRho} {st : Store} {v : VD}
theorem loopF_cons : loopF tg f (x :: xs) r st = loopK tg f xs (bindS tg x r) st := by
  show (match bindS tg x r with | none => _ | some r' => _) = _
  cases bindS tg x r <;> rfl
@[simp] theorem loopK_some : loopK tg f xs (some r) st = (f r st).bind (loopG tg f xs) := (rfl)
@[simp] theorem loopG_next : loopG tg f xs (.next r) st = loopF tg f xs r st := (rfl)
@[simp] theorem loopG_cnt : loopG tg f xs (.cnt r) st = loopF tg f xs r st := (rfl)
@[simp] theorem loopG_brk : loopG tg f xs (.brk r) st = .ok (.next r) st := (rfl)
@[simp] theorem loopG_ret : loopG tg f xs (.ret v) st = .ok (.ret v) st := (rfl)
end
/-! ### a turn of a comprehension -/
section
variable {tg : Tg} {r : Rho} {c e k v : Rho → Store → R VD} {x : D} {st : Store}
def lcK (o : Option Rho) (c e : Rho → Store → R VD) (st : Store) : R (Option VD) := match o with
  | some r' => (c r' st).noX.bind fun b st => tst (truthD b.2) ((e r' st).noX.bind fun v st => .ok (some v) st) (.ok none st)
  | none => .no
theorem lcF_is : lcF tg r c e x st = lcK (bindTg tg x r) c e st := by
  unfold lcF lcK
  cases bindTg tg x r with
  | none => rfl
  | some r' => rfl
@[simp] theorem lcK_some : lcK (some r) c e st = (c r st).noX.bind fun b st => tst (truthD b.2) ((e r st).noX.bind fun v st => .ok (some v) st) (.ok none st) := (rfl)
end
/-- a box of a law: what is left of its cell, a seed, a count of at most c -/
def BoxAt (st : Store) (h c : Nat) : Prop := ∃ a b k : Int, st[h]? = some (.nums [a, b, k]) ∧ 0 ≤ a ∧ 0 ≤ b ∧ b < 2147483629 ∧ 0 ≤ k ∧ k ≤ c
theorem BoxAt.mono {st : Store} {h c c' : Nat} (B : BoxAt st h c) (hc : c ≤ c') : BoxAt st h c' := by
  obtain ⟨a, b, k, h1, h2, h3, h4, h5, h6⟩ := B
  exact ⟨a, b, k, h1, h2, h3, h4, h5, by omega⟩
theorem nlog_lit {i : Int} (h1 : -18446744073709551616 < i) (h2 : i < 18446744073709551616) : nlog i < 64 := nlog_lt (by omega) (by omega)
/-! ### yards -/
abbrev Rows := List (List (Option Int))
def priceD : Option Int → D
  | none => .non
  | some x => .int x
theorem newO_prices {r : List (Option Int)} : newO (r.map priceD) = .all := newO_flat (flatL_map fun a => by cases a <;> rfl)
def rowD (r : List (Option Int)) : D := .lst (r.map priceD)
def rowsD (rs : Rows) : D := .lst (rs.map rowD)
def okPrice : Option Int → Bool
  | none => true
  | some x => decide (0 < x)
def okRow (r : List (Option Int)) : Bool := decide (r.length = 6) && r.all okPrice
def okRows (rs : Rows) : Bool := decide (1 ≤ rs.length ∧ rs.length ≤ 60) && rs.all okRow
/-! ### arrangements -/
def isPl (c : Nat) : Bool := c == 97 || (c == 98 || c == 99)
theorem isPl_by {c : Nat} (h : isPl c = true) : c = 97 ∨ c = 98 ∨ c = 99 := by simpa [isPl] using h
def okWord (w : List Nat) : Bool := w.all isPl
/-! ### ends of runs -/
section
variable {α β : Type} {m : R α} {Q : α → Store → Prop} {f : α → Store → R β} {x y : R α} {c : Prop} [Decidable c]
theorem Ok.eq {a : α} {st : Store} (h : Ok m fun b s => b = a ∧ s = st) : m = .ok a st := by
  cases h with
  | mk h => obtain ⟨rfl, rfl⟩ := h; rfl
theorem Ok_ite : Ok (if c then x else y) Q ↔ if c then Ok x Q else Ok y Q := by split <;> exact Iff.rfl
theorem Ok_noX : Ok m.noX Q ↔ Ok m Q := by
  cases m with
  | ok a st => exact Iff.rfl
  | exc c ds st => show Ok .no Q ↔ _; simp
  | no => exact Iff.rfl
end
theorem Ok_fin {m : R Fl} {Q : VD → Store → Prop} : Ok (fin m) Q ↔ Ok m fun fl st => match fl with
    | .next _ => Q (.all, .non) st
    | .ret v => Q v st
    | _ => False := by
  cases m with
  | ok fl st =>
    cases fl with
    | next r => simp
    | ret v => simp
    | brk r => rw [show fin (.ok (.brk r) st) = .no from rfl]; simp
    | cnt r => rw [show fin (.ok (.cnt r) st) = .no from rfl]; simp
  | exc c ds st => simp
  | no => simp
/-- a loop without effects, that goes to its end -/
theorem loopF_pure {tg : Tg} {f : SRho → Store → R Fl} {st : Store} {α β : Type} (g : α → D) (S : β → SRho) (stp : β → α → β) (I : List α → β → Prop)
    (h : ∀ a l b, I (a :: l) b → I l (stp b a) ∧ ∃ r', bindS tg (g a) (S b) = some r' ∧ (f r' st = .ok (.next (S (stp b a))) st ∨ f r' st = .ok (.cnt (S (stp b a))) st)) : ∀ (l : List α) (b : β), I l b → loopF tg f (l.map g) (S b) st = .ok (.next (S (l.foldl stp b))) st
  | [], b, _ => rfl
  | a :: l, b, i => by
    obtain ⟨i2, r', h1, h2⟩ := h a l b i
    rw [List.map_cons, loopF_cons, h1, loopK_some]
    rcases h2 with h2 | h2 <;> rw [h2, bind_ok]
    · rw [loopG_next, loopF_pure g S stp I h l _ i2, List.foldl_cons]
    · rw [loopG_cnt, loopF_pure g S stp I h l _ i2, List.foldl_cons]
@[simp] theorem told_nil {x : D} : toldB x [] = some [] := (rfl)
@[simp] theorem told_cons {x y : D} {ys : List D} : toldB x (y :: ys) = (deqF y x).bind fun b => (toldB x ys).map (b :: ·) := (rfl)
@[simp] theorem firstT_nil : firstT [] = none := (rfl)
@[simp] theorem firstT_true {l : List Bool} : firstT (true :: l) = some 0 := (rfl)
@[simp] theorem firstT_false {l : List Bool} : firstT (false :: l) = (firstT l).map (· + 1) := (rfl)
/-- the number of a word -/
def numW (acc : Nat) (w : List Nat) : Nat := w.foldl (fun a c => 3 * a + (c - 97)) acc
theorem nlog3 {a k : Nat} (h : a < 3 ^ k) (hk : k ≤ 1000) : nlog 3 + nlog (a : Int) < 1000000 := by
  have e1 : nlog 3 < 64 := nlog_lit (by omega) (by omega)
  have e2 : nlog (a : Int) < 2 * k + 1 := nlog_lt (by
    have : (3 : Nat) ^ k ≤ 4 ^ k := Nat.pow_le_pow_left (by omega) k
    have e : (2 : Nat) ^ (2 * k + 1) = 2 * 4 ^ k := by rw [Nat.pow_succ, Nat.pow_mul, show (2 : Nat) ^ 2 = 4 by decide]; omega
    rw [e]
    omega) (by omega)
  omega
/-- the signs of a number, the last one first -/
def digW : Nat → Nat → List Nat
  | 0, _ => []
  | k + 1, m => (97 + m % 3) :: digW k (m / 3)
def atW (k m : Nat) : List Nat := (digW k m).reverse
theorem digW_len : ∀ k m, (digW k m).length = k
  | 0, _ => rfl
  | k + 1, m => by simp [digW, digW_len k]
theorem foldl_pow3 : ∀ (l : List Nat) (k a : Nat), a = 3 ^ k → l.foldl (fun (b : Nat) _ => 3 * b) a = 3 ^ (k + l.length)
  | [], k, a, h => by simpa using h
  | c :: l, k, a, h => by
    rw [List.foldl_cons, foldl_pow3 l (k + 1) (3 * a) (by rw [h, Nat.pow_succ]; omega), List.length_cons]
    congr 1
    omega
theorem numW_app (w : List Nat) (c a : Nat) : numW a (w ++ [c]) = 3 * numW a w + (c - 97) := by simp [numW]
theorem digW_num : ∀ (r : List Nat), okWord r = true → digW r.length (numW 0 r.reverse) = r
  | [], _ => rfl
  | c :: r, h => by
    have hc : isPl c = true ∧ okWord r = true := by simpa [okWord] using h
    have lt : c - 97 < 3 ∧ 97 ≤ c := by rcases isPl_by hc.1 with rfl | rfl | rfl <;> omega
    rw [List.reverse_cons, numW_app, List.length_cons]
    show (97 + (3 * numW 0 r.reverse + (c - 97)) % 3) :: digW r.length ((3 * numW 0 r.reverse + (c - 97)) / 3) = _
    rw [show (3 * numW 0 r.reverse + (c - 97)) / 3 = numW 0 r.reverse by omega, digW_num r hc.2]
    congr 1
    omega
theorem okWord_rev {w : List Nat} : okWord w.reverse = okWord w := by simp [okWord]
theorem at_num {w : List Nat} (h : okWord w = true) : atW w.length (numW 0 w) = w := by
  have z := digW_num w.reverse (by rw [okWord_rev]; exact h)
  rw [List.reverse_reverse, List.length_reverse] at z
  unfold atW
  rw [z, List.reverse_reverse]
theorem numW_lt : ∀ (w : List Nat) (a k : Nat), okWord w = true → a < 3 ^ k → numW a w < 3 ^ (k + w.length)
  | [], a, k, _, h => by simpa [numW] using h
  | c :: w, a, k, h, ha => by
    have hc : isPl c = true ∧ okWord w = true := by simpa [okWord] using h
    have lt : c - 97 < 3 := by rcases isPl_by hc.1 with rfl | rfl | rfl <;> omega
    have z := numW_lt w (3 * a + (c - 97)) (k + 1) hc.2 (by rw [Nat.pow_succ]; omega)
    rw [List.length_cons, show k + (w.length + 1) = k + 1 + w.length by omega]
    exact z
theorem digW_zero : ∀ k, digW k 0 = List.replicate k 97
  | 0 => rfl
  | k + 1 => by simp [digW, digW_zero k, List.replicate_succ]
theorem numW_c : ∀ (k a : Nat), numW a (List.replicate k 99) = 3 ^ k * (a + 1) - 1
  | 0, a => by simp [numW]
  | k + 1, a => by
    rw [List.replicate_succ]
    show numW (3 * a + (99 - 97)) (List.replicate k 99) = _
    rw [numW_c k, Nat.pow_succ, show 3 * a + (99 - 97) + 1 = 3 * (a + 1) by omega, Nat.mul_assoc]
/-- a word that isn't all c has one behind it -/
theorem last_not_c : ∀ (r : List Nat), okWord r = true → r ≠ List.replicate r.length 99 → ∃ k x u, r = List.replicate k 99 ++ x :: u ∧ (x = 97 ∨ x = 98)
  | [], _, h => absurd rfl h
  | c :: r, h, hn => by
    have hc : isPl c = true ∧ okWord r = true := by simpa [okWord] using h
    rcases isPl_by hc.1 with rfl | rfl | rfl
    · exact ⟨0, 97, r, rfl, .inl rfl⟩
    · exact ⟨0, 98, r, rfl, .inr rfl⟩
    · obtain ⟨k, x, u, e, hx⟩ := last_not_c r hc.2 fun z => hn (by rw [List.length_cons, List.replicate_succ, ← z])
      exact ⟨k + 1, x, u, by rw [e, List.replicate_succ]; rfl, hx⟩
theorem numW_from (u : List Nat) (a : Nat) (w : List Nat) : numW a (u ++ w) = numW (numW a u) w := by simp [numW]
theorem numW_a : ∀ (k a : Nat), numW a (List.replicate k 97) = 3 ^ k * a
  | 0, a => by simp [numW]
  | k + 1, a => by
    rw [List.replicate_succ]
    show numW (3 * a + (97 - 97)) (List.replicate k 97) = _
    rw [numW_a k, Nat.pow_succ, Nat.mul_assoc, Nat.add_zero]
/-- the word behind -/
theorem num_next (u : List Nat) (x k : Nat) (hx : x = 97 ∨ x = 98) : numW 0 (u ++ (x + 1) :: List.replicate k 97) = numW 0 (u ++ x :: List.replicate k 99) + 1 := by
  rw [numW_from, numW_from]
  show numW (3 * numW 0 u + (x + 1 - 97)) (List.replicate k 97) = numW (3 * numW 0 u + (x - 97)) (List.replicate k 99) + 1
  rw [numW_a, numW_c]
  have p : 0 < 3 ^ k := Nat.pow_pos (by omega)
  have e : 3 * numW 0 u + (x + 1 - 97) = 3 * numW 0 u + (x - 97) + 1 := by omega
  rw [e]
  have : 0 < 3 ^ k * (3 * numW 0 u + (x - 97) + 1) := Nat.mul_pos p (by omega)
  omega
/-! ### while -/
theorem loopW_succ {c : SRho → Store → R VD} {f : SRho → Store → R Fl} {n : Nat} {r : SRho} {st : Store} : loopW c f (n + 1) r st = (c r st).bind fun x st => tst (truthD x.2) ((f r st).bind fun fl st => match fl with
      | .next r => loopW c f n r st
      | .cnt r => loopW c f n r st
      | .brk r => .ok (.next r) st
      | .ret v => .ok (.ret v) st) (.ok (.next r) st) := by
  rfl
/-- a while without effects: its turns, one behind the other, then its end -/
theorem loopW_pure {c : SRho → Store → R VD} {f : SRho → Store → R Fl} {st : Store} {β : Type} (S : β → SRho) (stp : β → β) (go : β → Bool) (I : β → Prop) (hc : ∀ b, I b → c (S b) st = .ok (.all, .bl (go b)) st) (hf : ∀ b, I b → go b = true → I (stp b) ∧ f (S b) st = .ok (.next (S (stp b))) st) :
    ∀ (k n : Nat) (b : β), I b → (∀ j, j < k → go (Nat.repeat stp j b) = true) → go (Nat.repeat stp k b) = false → k < n → loopW c f n (S b) st = .ok (.next (S (Nat.repeat stp k b))) st := by
  have rep : ∀ (k : Nat) (b : β), Nat.repeat stp (k + 1) b = Nat.repeat stp k (stp b) := by
    intro k
    induction k with
    | zero => intro b; rfl
    | succ k ih => intro b; show stp (Nat.repeat stp (k + 1) b) = stp (Nat.repeat stp k (stp b)); rw [ih]
  intro k
  induction k with
  | zero =>
    intro n b i _ h2 hn
    obtain ⟨n, rfl⟩ : ∃ m, n = m + 1 := ⟨n - 1, by omega⟩
    have h2 : go b = false := h2
    rw [loopW_succ, hc b i, bind_ok, truth_bl, h2, tst_some, if_neg (by decide)]
    rfl
  | succ k ih =>
    intro n b i h1 h2 hn
    obtain ⟨n, rfl⟩ : ∃ m, n = m + 1 := ⟨n - 1, by omega⟩
    have g0 : go b = true := h1 0 (by omega)
    obtain ⟨i2, e2⟩ := hf b i g0
    rw [loopW_succ, hc b i, bind_ok, truth_bl, g0, tst_some, if_pos rfl, e2, bind_ok, rep]
    exact ih n (stp b) i2 (fun j hj => by have := h1 (j + 1) (by omega); rwa [rep] at this) (by rwa [rep] at h2) (by omega)
theorem flat_signs : ∀ w : List Nat, (w.map fun c => [c]).flatten = w
  | [] => rfl
  | c :: w => by rw [List.map_cons, List.flatten_cons, flat_signs w]; rfl
theorem join_signs {w : List Nat} : meD .join (.str []) [.lst (w.map fun c => .str [c])] = if w.length ≤ maxLen then some (.all, .str w) else none := by
  rw [me_join, strsOf_map (f := fun c => [c]) (l := w)]
  show (if (joinS [] (w.map fun c => [c])).length ≤ maxLen ∧ _ then _ else _) = _
  rw [joinS_nil, flat_signs]
  by_cases h : w.length ≤ maxLen
  · rw [if_pos h, if_pos ⟨h, by simp⟩]
  · rw [if_neg h, if_neg fun z => h z.1]
theorem rev_signs {w : List Nat} : revD (.lst (w.map fun c => .str [c])) = some (.all, .lst (w.reverse.map fun c => .str [c])) := by
  rw [rev_lst, newO_flat (flatL_map fun _ => rfl), List.map_reverse]
theorem nx_get (u : List Nat) (x i : Nat) (t : List Nat) : (u ++ x :: (List.replicate (i + 1) 99 ++ t))[u.length + (i + 1)]? = some 99 := by
  rw [List.getElem?_append_right (by omega), show u.length + (i + 1) - u.length = i + 1 by omega, List.getElem?_cons_succ, List.getElem?_append_left (by simp)]
  simp
theorem nx_set (u : List Nat) (x i j : Nat) : (u ++ x :: (List.replicate (i + 1) 99 ++ List.replicate j 97)).set (u.length + (i + 1)) 97 = u ++ x :: (List.replicate i 99 ++ List.replicate (j + 1) 97) := by
  rw [List.set_append_right _ _ (by omega), show u.length + (i + 1) - u.length = i + 1 by omega, List.set_cons_succ]
  congr 2
  rw [List.replicate_succ', List.append_assoc, List.set_append_right _ _ (by simp)]
  simp [List.replicate_succ]
theorem nx_get0 (u : List Nat) (x : Nat) (t : List Nat) : (u ++ x :: t)[u.length]? = some x := by simp
theorem nx_set0 (u : List Nat) (x y : Nat) (t : List Nat) : (u ++ x :: t).set u.length y = u ++ y :: t := by
  rw [List.set_append_right _ _ (by omega)]
  simp
theorem repeat_succ : ∀ k : Nat, Nat.repeat (fun b : Nat => b + 1) k 0 = k
  | 0 => rfl
  | k + 1 => by
    show Nat.repeat (fun b : Nat => b + 1) k 0 + 1 = k + 1
    rw [repeat_succ k]
/-- a text's signs -/
def sg (w : List Nat) : List D := w.map fun c => .str [c]
@[simp] theorem sg_len {w : List Nat} : (sg w).length = w.length := by simp [sg]
@[simp] theorem sg_at {w : List Nat} {i : Nat} : (sg w)[i]? = (w[i]?).map fun c => .str [c] := by simp [sg]
theorem sg_set {w : List Nat} {i c : Nat} : (sg w).set i (.str [c]) = sg (w.set i c) := by simp [sg, List.map_set]
/-! ### places -/
def plc (w : List Nat) (p : Nat) : List Nat := (List.range w.length).filterMap fun k => if w[k]? = some p then some k else none
def intsD (l : List Nat) : List D := l.map fun k : Nat => .int (k : Int)
@[simp] theorem intsD_len {l : List Nat} : (intsD l).length = l.length := by simp [intsD]
theorem intsD_flat {l : List Nat} : flatL (intsD l) = true := flatL_map fun _ => rfl
theorem fm_congr {α β : Type} {f g : α → Option β} : ∀ {l : List α}, (∀ a ∈ l, f a = g a) → l.filterMap f = l.filterMap g
  | [], _ => rfl
  | a :: l, h => by rw [List.filterMap_cons, List.filterMap_cons, h a (by simp), fm_congr fun b hb => h b (by simp [hb])]
theorem zip_range {β : Type} (p : Nat) (g : Nat → β) : ∀ (w : List Nat) (s : Nat), (w.zipIdx s).filterMap (fun q => if q.1 = p then some (g q.2) else none) = (List.range' s w.length).filterMap fun k => if w[k - s]? = some p then some (g k) else none
  | [], s => rfl
  | c :: w, s => by
    rw [List.zipIdx_cons, List.filterMap_cons, List.length_cons, List.range'_succ, List.filterMap_cons, zip_range p g w (s + 1)]
    have e : (List.range' (s + 1) w.length).filterMap (fun k => if w[k - (s + 1)]? = some p then some (g k) else none) = (List.range' (s + 1) w.length).filterMap fun k => if (c :: w)[k - s]? = some p then some (g k) else none := fm_congr fun k hk => by
      have := (List.mem_range'_1.mp hk).1
      rw [show k - s = (k - (s + 1)) + 1 by omega, List.getElem?_cons_succ]
    rw [e]
    simp only [Nat.sub_self, List.getElem?_cons_zero, Option.some.injEq]
theorem plc_map {β : Type} (w : List Nat) (p : Nat) (g : Nat → β) : (plc w p).map g = (List.range w.length).filterMap fun k => if w[k]? = some p then some (g k) else none := by
  unfold plc
  rw [List.map_filterMap]
  exact fm_congr fun k _ => by split <;> rfl
theorem plc_zip (w : List Nat) (p : Nat) : (w.zipIdx).filterMap (fun q => if q.1 = p then some (D.int (q.2 : Int)) else none) = intsD (plc w p) := by
  unfold intsD
  rw [zip_range p (fun k => D.int (k : Int)) w 0, plc_map, List.range_eq_range']
  rfl
def topD (l : List Nat) : D := match l.getLast? with
  | some k => .int (k : Int)
  | none => .non
theorem Ok.cons {env : Env} {wf : Nat} {s : Sm} {ss : Sms} {r : SRho} {st : Store} {Q : Fl → Store → Prop} (Q1 : Fl → Store → Prop) (h : Ok (evS env wf s r st) Q1) (k : ∀ fl st', Q1 fl st' → Ok (goOn fl st' fun r st => evSs env wf ss r st) Q) : Ok (evSs env wf (.cons s ss) r st) Q := by
  rw [es_cons]
  exact Ok.bind h k
/-- prices as the laws draw them -/
def goodPrice : Option Int → Bool
  | none => true
  | some x => decide (0 < x ∧ x < 1000000000000000000000000000000)
def goodRow (r : List (Option Int)) : Bool := decide (r.length = 6) && r.all goodPrice
theorem goodPrice_ok {p : Option Int} (h : goodPrice p = true) : okPrice p = true := by
  cases p with
  | none => rfl
  | some x =>
    have := of_decide_eq_true h
    exact decide_eq_true this.1
theorem goodRow_ok {r : List (Option Int)} (h : goodRow r = true) : okRow r = true := by
  unfold goodRow at h
  unfold okRow
  simp only [Bool.and_eq_true, List.all_eq_true] at h ⊢
  exact ⟨h.1, fun p hp => goodPrice_ok (h.2 p hp)⟩
theorem goodRows_ok {rs : Rows} (h : rs.all goodRow = true) (h1 : 1 ≤ rs.length) (h2 : rs.length ≤ 60) : okRows rs = true := by
  unfold okRows
  simp only [Bool.and_eq_true, List.all_eq_true] at h ⊢
  exact ⟨decide_eq_true ⟨h1, h2⟩, fun r hr => goodRow_ok (h r hr)⟩
theorem ok_fn {P : Pr} {n f : Nat} {F : Fn} {ds : List D} {st : Store} {Q : VD → Store → Prop} (hF : P.fns[f]? = some F) (hi : F.ini = none) (hl : ds.length = F.np)
    (h : Ok (evSs (P.env n) P.wf F.body (startS F.ns ds) st) fun fl st => match fl with
      | .next _ => Q (.all, .non) st
      | .ret v => Q v st
      | _ => False) : Ok (run P (n + 1) f ds st) Q := by
  rw [run_f hF hi, if_pos hl, Ok_fin]
  exact h
def turnsN (lo hi : Int) (l : Nat) : Nat := (max lo (min hi (l : Int))).toNat
theorem turnsN_le {lo hi : Int} {l : Nat} (h1 : lo ≤ 60) (h2 : hi ≤ 60) : turnsN lo hi l ≤ 60 := by unfold turnsN; omega
theorem turns_ok {env : Env} {r : Rho} {st : Store} {ns : List Int} (lo hi : Int) (h : r[0]? = some (some (.scr ns))) (h0 : 0 ≤ lo) (h1 : lo ≤ 60) (h2 : hi ≤ 60) :
    evIt env (.rng1 (.bi .max2 (.cons (.lit (.int lo)) (.cons (.bi .min2 (.cons (.lit (.int hi)) (.cons (.bi .len (.cons (.var 0) .nil)) .nil))) .nil)))) r st = .ok ((List.range (turnsN lo hi ns.length)).map fun k : Nat => .int (k : Int)) st := by
  have e : (if (if (ns.length : Int) < hi then (ns.length : Int) else hi) > lo then (if (ns.length : Int) < hi then (ns.length : Int) else hi) else lo) = ((turnsN lo hi ns.length : Nat) : Int) := by
    unfold turnsN
    split <;> split <;> omega
  rw [ev_rng1, ev_bi, ev_cons, ev_lit, bind_ok, ev_cons, ev_bi, ev_cons, ev_lit, bind_ok, ev_cons, ev_bi, ev_cons, ev_var, h, varR_some, bind_ok, ev_nil, bind_ok, bind_ok, bi_len_scr, bind_ok, ev_nil, bind_ok, bind_ok, bind_ok, bi_min2, bind_ok, ev_nil, bind_ok, bind_ok, bind_ok, bi_max2, bind_ok, onInt_int, e, if_pos (small_nat (by have := turnsN_le (l := ns.length) h1 h2; omega)), rangeD_nat]
end PD
/-! PR: repr is told of small trees -/
namespace PD
open PySem
/-- trees whose repr is told, nested k deep -/
def okR : Nat → D → Bool
  | _, .non => true
  | _, .bl _ => true
  | _, .int i => decide (i.natAbs.log2 < 1920)
  | _, .str s => s.all fun c => decide (c < 4294967296)
  | k + 1, .lst xs => xs.all (okR k)
  | k + 1, .tup xs => xs.all (okR k)
  | _, _ => false
theorem listText_le (ts : List Str) : (listText ts).length ≤ 2 + piled ts := by
  cases ts with
  | nil => show (("[" : Str) ++ "]").length ≤ _; decide
  | cons t r =>
    have h := textFrom_length_pos r 1 (("[" : Str) ++ (if (0 : Nat) > 0 then ", " else "" : String) ++ t) (Nat.succ_pos 0)
    have e : ((("[" : Str) ++ (if (0 : Nat) > 0 then ", " else "" : String) ++ t)).length = 1 + t.length := by
      rw [strLen_append, strLen_append]; rfl
    have hX : (listText (t :: r)).length = (textFrom 0 "[" (t :: r)).length + 1 := by
      show (textFrom 0 "[" (t :: r) ++ "]").length = _
      rw [strLen_append]; rfl
    have hY : (textFrom 0 "[" (t :: r)).length = (textFrom 1 (("[" : Str) ++ (if (0 : Nat) > 0 then ", " else "" : String) ++ t) r).length := rfl
    rw [hX, hY, h, e, piled_cons]; omega
theorem tupleText_le (ts : List Str) : (tupleText ts).length ≤ 3 + piled ts := by
  have e : (tupleText ts).length ≤ 1 + (Str.join ", " ts).length + 2 := by
    unfold tupleText
    rw [strLen_append, strLen_append]
    have e1 : (("(" : String) : Str).length = 1 := rfl
    rw [e1]
    split
    · have e2 : ((",)" : String) : Str).length = 2 := rfl
      rw [e2]; omega
    · have e2 : ((")" : String) : Str).length = 1 := rfl
      rw [e2]; omega
  by_cases h : ts = []
  · subst h
    have : (Str.join ", " []).length = 0 := rfl
    rw [this] at e
    omega
  · have := join_length_add ts h
    omega
theorem okR_py : ∀ (k : Nat) (d : D), okR k d = true → ∃ p, pyD d = some p ∧ p.showable = true ∧ p.depth ≤ k ∧ p.shown.length ≤ wt d := by
  have lists : ∀ (k : Nat), (∀ d, okR k d = true → ∃ p, pyD d = some p ∧ p.showable = true ∧ p.depth ≤ k ∧ p.shown.length ≤ wt d) → ∀ xs : List D, xs.all (okR k) = true →
      ∃ ps, pyD.pyL xs = some ps ∧ PyData.showableAll ps = true ∧ PyData.depthAll ps ≤ k ∧ piled (PyData.shownAll ps) ≤ wtL xs := by
    intro k ih xs
    induction xs with
    | nil => intro _; exact ⟨[], rfl, rfl, Nat.zero_le _, Nat.le_refl _⟩
    | cons x xs ihx =>
      intro h
      simp only [List.all_cons, Bool.and_eq_true] at h
      obtain ⟨p, h1, h2, h3, h4⟩ := ih x h.1
      obtain ⟨ps, g1, g2, g3, g4⟩ := ihx h.2
      refine ⟨p :: ps, ?_, ?_, ?_, ?_⟩
      · show (pyD x).bind _ = _
        rw [h1]
        show (pyD.pyL xs).map _ = _
        rw [g1]
        rfl
      · show (PyData.showable p && PyData.showableAll ps) = true
        rw [h2, g2]
        rfl
      · show max (PyData.depth p) (PyData.depthAll ps) ≤ k
        omega
      · show piled (PyData.shown p :: PyData.shownAll ps) ≤ 2 + wt x + wtL xs
        rw [piled_cons]
        omega
  intro k
  induction k with
  | zero =>
    intro d h
    cases d with
    | non => exact ⟨.none, rfl, rfl, Nat.zero_le _, by show (("None" : String) : Str).length ≤ 5; decide⟩
    | bl b => exact ⟨.bool b, rfl, rfl, Nat.zero_le _, by cases b <;> (show (_ : Str).length ≤ 5; decide)⟩
    | int i =>
      have h : i.natAbs.log2 < 1920 := of_decide_eq_true h
      refine ⟨.int i, rfl, decide_eq_true h, Nat.zero_le _, ?_⟩
      show ((toString i : String) : Str).length ≤ i.natAbs.log2 + 4
      have e : ((toString i : String) : Str).length = (toString i).length := by
        exact ofString_length _
      rw [e]
      have := int_text_length_le (a := i) (k := i.natAbs.log2 + 1) (by omega) (by omega)
      omega
    | str s =>
      refine ⟨.str (toStr s), rfl, rfl, Nat.zero_le _, ?_⟩
      show (reprText (toStr s)).length ≤ 10 * s.length + 2
      have h : s.all (fun c => decide (c < 4294967296)) = true := h
      simp only [List.all_eq_true, decide_eq_true_eq] at h
      have := StrLaws.reprText_len (toStr s) (fun c hc => by
        have hc : c ∈ s.toArray.toList := hc
        have := h c (by simpa using hc)
        omega)
      rwa [toStr_len] at this
    | _ => cases h
  | succ k ih =>
    intro d h
    cases d with
    | non => exact ⟨.none, rfl, rfl, Nat.zero_le _, by show (("None" : String) : Str).length ≤ 5; decide⟩
    | bl b => exact ⟨.bool b, rfl, rfl, Nat.zero_le _, by cases b <;> (show (_ : Str).length ≤ 5; decide)⟩
    | int i =>
      have h : i.natAbs.log2 < 1920 := of_decide_eq_true h
      refine ⟨.int i, rfl, decide_eq_true h, Nat.zero_le _, ?_⟩
      show ((toString i : String) : Str).length ≤ i.natAbs.log2 + 4
      have e : ((toString i : String) : Str).length = (toString i).length := by
        exact ofString_length _
      rw [e]
      have := int_text_length_le (a := i) (k := i.natAbs.log2 + 1) (by omega) (by omega)
      omega
    | str s =>
      refine ⟨.str (toStr s), rfl, rfl, Nat.zero_le _, ?_⟩
      show (reprText (toStr s)).length ≤ 10 * s.length + 2
      have h : s.all (fun c => decide (c < 4294967296)) = true := h
      simp only [List.all_eq_true, decide_eq_true_eq] at h
      have := StrLaws.reprText_len (toStr s) (fun c hc => by
        have hc : c ∈ s.toArray.toList := hc
        have := h c (by simpa using hc)
        omega)
      rwa [toStr_len] at this
    | lst xs =>
      obtain ⟨ps, g1, g2, g3, g4⟩ := lists k ih xs h
      refine ⟨.list ps, ?_, g2, by show PyData.depthAll ps + 1 ≤ _; omega, ?_⟩
      · show (pyD.pyL xs).map _ = _
        rw [g1]
        rfl
      · show (listText (PyData.shownAll ps)).length ≤ 2 + wtL xs
        have := listText_le (PyData.shownAll ps)
        omega
    | tup xs =>
      obtain ⟨ps, g1, g2, g3, g4⟩ := lists k ih xs h
      refine ⟨.tuple ps, ?_, g2, by show PyData.depthAll ps + 1 ≤ _; omega, ?_⟩
      · show (pyD.pyL xs).map _ = _
        rw [g1]
        rfl
      · show (tupleText (PyData.shownAll ps)).length ≤ 3 + wtL xs
        have := tupleText_le (PyData.shownAll ps)
        omega
    | _ => cases h
theorem rpD_some {k : Nat} {d : D} (h : okR k d = true) (hk : k ≤ 40) (hw : wt d ≤ maxLen) : ∃ t, rpD d = some t := by
  obtain ⟨p, h1, h2, h3, h4⟩ := okR_py k d h
  unfold rpD
  rw [h1]
  exact ⟨p.shown.cps.toList, if_pos ⟨h2, by omega, by omega⟩⟩
theorem rpD_int {i : Int} (h : i.natAbs < 2 ^ 1000) : ∃ t, rpD (.int i) = some t := by
  have l : i.natAbs.log2 < 1000 := by
    by_cases z : i.natAbs = 0
    · rw [z]; decide
    · exact (Nat.log2_lt z).mpr h
  exact rpD_some (k := 0) (decide_eq_true (by omega)) (by omega) (by show i.natAbs.log2 + 4 ≤ maxLen; unfold maxLen; omega)
theorem rpD_non : ∃ t, rpD .non = some t := rpD_some (k := 0) rfl (by omega) (by decide)
theorem rpD_ints {l : List Nat} (h : ∀ x ∈ l, x < 1000000) (hl : l.length ≤ 1000) : ∃ t, rpD (.lst (intsD l)) = some t := by
  refine rpD_some (k := 1) ?_ (by omega) ?_
  · show (intsD l).all (okR 0) = true
    unfold intsD
    rw [List.all_map, List.all_eq_true]
    intro x hx
    have := h x hx
    refine decide_eq_true ?_
    show ((x : Int).natAbs).log2 < 1920
    by_cases z : x = 0
    · rw [z]; decide
    · have : ((x : Int).natAbs).log2 < 20 := (Nat.log2_lt (by omega)).mpr (by omega)
      omega
  · show 2 + wtL (intsD l) ≤ maxLen
    have key : ∀ l : List Nat, (∀ x ∈ l, x < 1000000) → wtL (intsD l) ≤ 26 * l.length := by
      intro l
      induction l with
      | nil => intro _; exact Nat.le_refl _
      | cons x l ih =>
        intro h
        have i := ih fun y hy => h y (by simp [hy])
        have hx := h x (by simp)
        show 2 + ((x : Int).natAbs.log2 + 4) + wtL (intsD l) ≤ _
        have : ((x : Int).natAbs).log2 < 20 := by
          by_cases z : x = 0
          · rw [z]; decide
          · exact (Nat.log2_lt (by omega)).mpr (by omega)
        rw [List.length_cons]
        omega
    have := key l h
    unfold maxLen
    omega
/-- trees that equal themselves, nested k deep -/
def eqTree : Nat → D → Bool
  | _, .non => true
  | _, .bl _ => true
  | _, .int _ => true
  | _, .str _ => true
  | k + 1, .lst xs => xs.all (eqTree k)
  | k + 1, .tup xs => xs.all (eqTree k)
  | _, _ => false
theorem zw_refl {f : D → D → Option Bool} : ∀ {xs : List D}, (∀ x ∈ xs, f x x = some true) → allO (zw f xs xs) = some true
  | [], _ => rfl
  | x :: xs, h => by
    rw [zw_cons, h x (by simp), allOc, zw_refl fun y hy => h y (by simp [hy])]
    rfl
theorem deqN_refl {dk : Bool} : ∀ (n : Nat) (d : D), eqTree n d = true → deqN dk n d d = some true
  | 0, d, h => by cases d <;> first | (cases h; done) | simp
  | n + 1, d, h => by
    cases d with
    | non => simp
    | bl b => simp
    | int i => simp
    | str s => simp
    | lst xs =>
      have h : xs.all (eqTree n) = true := h
      rw [deq_ll, if_pos rfl]
      exact zw_refl fun x hx => deqN_refl n x (List.all_eq_true.mp h x hx)
    | tup xs =>
      have h : xs.all (eqTree n) = true := h
      rw [deq_tt, if_pos rfl]
      exact zw_refl fun x hx => deqN_refl n x (List.all_eq_true.mp h x hx)
    | _ => cases h
theorem eqTree_ints {n : Nat} {l : List Nat} : eqTree (n + 1) (.lst (intsD l)) = true := by
  show (intsD l).all (eqTree n) = true
  unfold intsD
  rw [List.all_map, List.all_eq_true]
  intro x _
  cases n <;> rfl
theorem cmp_ne_ints {l : List Nat} : cmpD .ne (.lst (intsD l)) (.lst (intsD l)) = some false := by
  rw [cmp_nel, deqN_refl 30 _ eqTree_ints]
  rfl
theorem cmp_eq_ints {l : List Nat} : cmpD .eq (.lst (intsD l)) (.lst (intsD l)) = some true := by
  rw [cmp_eql, deqN_refl 30 _ eqTree_ints]
theorem rpD_top {l : List Nat} (h : ∀ x ∈ l, x < 1000000) : ∃ t, rpD (topD l) = some t := by
  unfold topD
  cases q : l.getLast? with
  | none => exact rpD_non
  | some k =>
    have := h k (List.mem_of_getLast? q)
    exact rpD_int (i := (k : Int)) (by
      have : (k : Int).natAbs < 2 ^ 20 := by omega
      exact Nat.lt_of_lt_of_le this (Nat.pow_le_pow_right (by omega) (by omega)))
theorem plc_lt {w : List Nat} {p x : Nat} (h : x ∈ plc w p) : x < w.length := by
  unfold plc at h
  obtain ⟨k, hk, e⟩ := List.mem_filterMap.mp h
  have := List.mem_range.mp hk
  split at e
  · cases e; exact this
  · cases e
theorem plc_len (w : List Nat) (p : Nat) : (plc w p).length ≤ w.length := by
  unfold plc
  have := List.length_filterMap_le (fun k => if w[k]? = some p then some k else none) (List.range w.length)
  simpa using this
end PD
/-! PM: moves and rows, plainly -/
namespace PD
/-- a move: a crate, a place -/
abbrev Mv := Nat × Nat
def mvD (m : Mv) : D := .tup [.int (m.1 : Int), .str [m.2]]
def wayI (a b : Nat) : Nat := if a = 97 then b - 98 else if a = 98 then (if b = 97 then 2 else 3) else b - 97 + 4
def prc (rs : Rows) (k a b : Nat) : Option Int := (((rs[k]?).getD [])[wayI a b]?).getD none
theorem wayI_lt {a b : Nat} (ha : isPl a = true) (hb : isPl b = true) (hn : a ≠ b) : wayI a b < 6 := by
  rcases isPl_by ha with rfl | rfl | rfl <;> rcases isPl_by hb with rfl | rfl | rfl <;> first | (exact absurd rfl hn) | decide
theorem prc_get {rs : Rows} (h : rs.all goodRow = true) {k : Nat} (hk : k < rs.length) {a b : Nat} (ha : isPl a = true) (hb : isPl b = true) (hn : a ≠ b) : ∃ r, rs[k]? = some r ∧ r.length = 6 ∧ r[wayI a b]? = some (prc rs k a b) := by
  have e : rs[k]? = some rs[k] := List.getElem?_eq_getElem hk
  have g := List.all_eq_true.mp h rs[k] (List.getElem_mem hk)
  have l6 : rs[k].length = 6 := by
    unfold goodRow at g
    simp only [Bool.and_eq_true] at g
    exact of_decide_eq_true g.1
  have w := wayI_lt ha hb hn
  refine ⟨rs[k], e, l6, ?_⟩
  unfold prc
  rw [e]
  simp only [Option.getD_some]
  rw [List.getElem?_eq_getElem (by omega)]
  rfl
theorem prc_lt {rs : Rows} (h : rs.all goodRow = true) {k a b : Nat} {x : Int} (q : prc rs k a b = some x) : 0 < x ∧ x < 1000000000000000000000000000000 := by
  unfold prc at q
  cases e : rs[k]? with
  | none => rw [e] at q; simp at q
  | some r =>
    rw [e] at q
    simp only [Option.getD_some] at q
    cases e2 : r[wayI a b]? with
    | none => rw [e2] at q; simp at q
    | some p =>
      rw [e2] at q
      simp only [Option.getD_some] at q
      subst q
      have g := List.all_eq_true.mp h r (List.mem_of_getElem? e)
      unfold goodRow at g
      simp only [Bool.and_eq_true] at g
      exact of_decide_eq_true (List.all_eq_true.mp g.2 _ (List.mem_of_getElem? e2))
/-- the arrangement behind a move -/
def stp (w : List Nat) (m : Mv) : List Nat := w.set m.1 m.2
theorem stp_len {w : List Nat} {m : Mv} : (stp w m).length = w.length := by simp [stp]
theorem stp_ok {w : List Nat} {m : Mv} (h : okWord w = true) (hm : isPl m.2 = true) : okWord (stp w m) = true := by
  unfold okWord stp at *
  rw [List.all_eq_true] at *
  intro x hx
  rcases List.mem_or_eq_of_mem_set hx with z | z
  · exact h x z
  · rw [z]; exact hm
theorem cut_stp {w : List Nat} {m : Mv} (h : m.1 < w.length) : cut w 0 m.1 ++ (m.2 :: cut w (m.1 + 1) w.length) = stp w m := by
  unfold cut stp
  rw [List.set_eq_take_append_cons_drop, if_pos h, List.drop_zero, List.take_length]
/-- a move that is allowed: from a, at the price x -/
structure GoodMv (rs : Rows) (w : List Nat) (m : Mv) (a : Nat) (x : Int) : Prop where
  here : w[m.1]? = some a
  pl : isPl m.2 = true
  ne : a ≠ m.2
  top : ∀ c ∈ w.drop (m.1 + 1), c ≠ a ∧ c ≠ m.2
  pr : prc rs m.1 a m.2 = some x
theorem GoodMv.lt {rs : Rows} {w : List Nat} {m : Mv} {a : Nat} {x : Int} (h : GoodMv rs w m a x) : m.1 < w.length := (List.getElem?_eq_some_iff.mp h.here).1
theorem GoodMv.pla {rs : Rows} {w : List Nat} {m : Mv} {a : Nat} {x : Int} (h : GoodMv rs w m a x) (ho : okWord w = true) : isPl a = true := List.all_eq_true.mp ho a (List.mem_of_getElem? h.here)
inductive GoodRow (rs : Rows) : List Nat → List (Mv × Int) → Prop
  | nil {w : List Nat} : GoodRow rs w []
  | cons {w : List Nat} {m : Mv} {a : Nat} {x : Int} {l : List (Mv × Int)} (h : GoodMv rs w m a x) (t : GoodRow rs (stp w m) l) : GoodRow rs w ((m, x) :: l)
def endW (w : List Nat) : List (Mv × Int) → List Nat
  | [] => w
  | p :: l => endW (stp w p.1) l
/-- the arrangements that come -/
def wds (w : List Nat) : List (Mv × Int) → List (List Nat)
  | [] => [w]
  | p :: l => w :: wds (stp w p.1) l
def mvsD (l : List (Mv × Int)) : List D := l.map fun p => mvD p.1
def wdsD (l : List (List Nat)) : List D := l.map .str
def prsD (l : List (Mv × Int)) : List D := l.map fun p => .int p.2
def cost (l : List (Mv × Int)) : Int := (l.map Prod.snd).sum
theorem wds_len : ∀ (w : List Nat) (l : List (Mv × Int)), (wds w l).length = l.length + 1
  | _, [] => rfl
  | w, p :: l => by show (wds (stp w p.1) l).length + 1 = _; rw [wds_len]; rfl
theorem wds_last : ∀ (w : List Nat) (l : List (Mv × Int)), (wds w l)[l.length]? = some (endW w l)
  | _, [] => rfl
  | w, p :: l => by
    show (w :: wds (stp w p.1) l)[l.length + 1]? = _
    rw [List.getElem?_cons_succ, wds_last]
    rfl
theorem endW_app : ∀ (w : List Nat) (l k : List (Mv × Int)), endW w (l ++ k) = endW (endW w l) k
  | _, [], _ => rfl
  | w, p :: l, k => endW_app (stp w p.1) l k
theorem endW_len : ∀ (w : List Nat) (l : List (Mv × Int)), (endW w l).length = w.length
  | _, [] => rfl
  | w, p :: l => by show (endW (stp w p.1) l).length = _; rw [endW_len, stp_len]
theorem GoodRow.snoc {rs : Rows} {m : Mv} {a : Nat} {x : Int} : ∀ {l : List (Mv × Int)} {w : List Nat}, GoodRow rs w l → GoodMv rs (endW w l) m a x → GoodRow rs w (l ++ [(m, x)])
  | [], _, _, h => .cons h .nil
  | p :: l, w, .cons h t, h2 => .cons h (GoodRow.snoc t h2)
theorem GoodRow.okw {rs : Rows} : ∀ {l : List (Mv × Int)} {w : List Nat}, GoodRow rs w l → okWord w = true → okWord (endW w l) = true
  | [], _, _, h => h
  | p :: l, w, .cons g t, h => by
    show okWord (endW (stp w p.1) l) = true
    exact GoodRow.okw t (stp_ok h g.pl)
theorem GoodRow.all {rs : Rows} : ∀ {l : List (Mv × Int)} {w : List Nat}, GoodRow rs w l → ∀ p ∈ l, p.1.1 < w.length ∧ isPl p.1.2 = true
  | [], _, _, _, h => by cases h
  | p :: l, w, .cons g t, q, h => by
    rcases List.mem_cons.mp h with z | z
    · rw [z]; exact ⟨g.lt, g.pl⟩
    · have := GoodRow.all t q z
      rwa [stp_len] at this
theorem GoodRow.prices {rs : Rows} (hr : rs.all goodRow = true) : ∀ {l : List (Mv × Int)} {w : List Nat}, GoodRow rs w l → ∀ p ∈ l, 0 < p.2 ∧ p.2 < 1000000000000000000000000000000
  | [], _, _, _, h => by cases h
  | p :: l, w, .cons g t, q, h => by
    rcases List.mem_cons.mp h with z | z
    · rw [z]; exact prc_lt hr g.pr
    · exact GoodRow.prices hr t q z
theorem cost_lt : ∀ {l : List (Mv × Int)}, (∀ p ∈ l, 0 < p.2 ∧ p.2 < 1000000000000000000000000000000) → 0 ≤ cost l ∧ cost l ≤ l.length * 1000000000000000000000000000000
  | [], _ => by simp [cost]
  | p :: l, h => by
    have h1 := h p (by simp)
    have h2 := cost_lt (l := l) fun q hq => h q (by simp [hq])
    have e : cost (p :: l) = p.2 + cost l := rfl
    rw [e, List.length_cons]
    omega
/-- the moves of the n largest crates -/
def part (n : Nat) (l : List (Mv × Int)) : List (Mv × Int) := l.filter fun p => decide (p.1.1 < n)
theorem stp_take {w : List Nat} {m : Mv} {n : Nat} : (stp w m).take n = if m.1 < n then stp (w.take n) m else w.take n := by
  unfold stp
  rw [List.take_set]
  split
  · rfl
  · exact List.set_eq_of_length_le (by simp; omega)
theorem GoodMv.part {rs : Rows} {w : List Nat} {m : Mv} {a : Nat} {x : Int} (h : GoodMv rs w m a x) {n : Nat} (hn : m.1 < n) : GoodMv (rs.take n) (w.take n) m a x where
  here := by rw [List.getElem?_take_of_lt hn]; exact h.here
  pl := h.pl
  ne := h.ne
  top := fun c hc => by
    rw [List.drop_take] at hc
    exact h.top c (List.mem_of_mem_take hc)
  pr := by
    have := h.pr
    unfold prc at *
    rwa [List.getElem?_take_of_lt hn]
theorem GoodRow.part {rs : Rows} {n : Nat} : ∀ {l : List (Mv × Int)} {w : List Nat}, GoodRow rs w l → GoodRow (rs.take n) (w.take n) (part n l) ∧ endW (w.take n) (PD.part n l) = (endW w l).take n
  | [], _, _ => ⟨.nil, rfl⟩
  | (m, x) :: l, w, .cons g t => by
    obtain ⟨i1, i2⟩ := GoodRow.part (n := n) t
    rw [stp_take] at i1 i2
    unfold PD.part at *
    by_cases q : m.1 < n
    · rw [if_pos q] at i1 i2
      rw [List.filter_cons_of_pos (by simpa using q)]
      exact ⟨.cons (g.part q) i1, i2⟩
    · rw [if_neg q] at i1 i2
      rw [List.filter_cons_of_neg (by simpa using q)]
      exact ⟨i1, i2⟩
theorem part_all {l : List (Mv × Int)} {n : Nat} (h : ∀ p ∈ l, p.1.1 < n) : part n l = l := by
  unfold part
  rw [List.filter_eq_self]
  intro p hp
  exact decide_eq_true (h p hp)
theorem part_fm (l : List (Mv × Int)) (n : Nat) : l.filterMap (fun p => if p.1.1 < n then some (mvD p.1) else none) = mvsD (part n l) := by
  unfold mvsD part
  induction l with
  | nil => rfl
  | cons p l ih =>
    by_cases q : p.1.1 < n
    · rw [List.filterMap_cons, if_pos q, List.filter_cons_of_pos (by simpa using q), List.map_cons, ih]
    · rw [List.filterMap_cons, if_neg q, List.filter_cons_of_neg (by simpa using q), ih]
/-- how often each crate moves -/
def cntM (l : List (Mv × Int)) (k : Nat) : Nat := (l.filterMap fun p => if p.1.1 = k then some (mvD p.1) else none).length
theorem cntM_le (l : List (Mv × Int)) (k : Nat) : cntM l k ≤ l.length := List.length_filterMap_le _ _
theorem third_ok {c a b : Nat} (hc : isPl c = true) (ha : isPl a = true) (hb : isPl b = true) (h : a ≠ b) (h1 : c ≠ a) (h2 : c ≠ b) : c = 294 - a - b := by
  rcases isPl_by hc with rfl | rfl | rfl <;> rcases isPl_by ha with rfl | rfl | rfl <;> rcases isPl_by hb with rfl | rfl | rfl <;> first | (exact absurd rfl h) | (exact absurd rfl h1) | (exact absurd rfl h2) | rfl
theorem GoodMv.rest {rs : Rows} {w : List Nat} {m : Mv} {a : Nat} {x : Int} (h : GoodMv rs w m a x) (ho : okWord w = true) : cut w (m.1 + 1) w.length = List.replicate (w.length - (m.1 + 1)) (294 - a - m.2) := by
  unfold cut
  rw [List.take_length]
  refine List.eq_replicate_iff.mpr ⟨by simp, fun c hc => ?_⟩
  have t := h.top c hc
  exact third_ok (List.all_eq_true.mp ho c (List.mem_of_mem_drop hc)) (h.pla ho) h.pl h.ne t.1 t.2
theorem eqTree_mv {n : Nat} {m : Mv} : eqTree (n + 1) (mvD m) = true := by
  unfold mvD eqTree
  simp only [List.all_cons, List.all_nil, Bool.and_true]
  cases n <;> rfl
theorem eqTree_mvs {n : Nat} {l : List (Mv × Int)} : eqTree (n + 2) (.lst (mvsD l)) = true := by
  show (mvsD l).all (eqTree (n + 1)) = true
  unfold mvsD
  rw [List.all_map, List.all_eq_true]
  exact fun p _ => eqTree_mv
theorem eqTree_wds {n : Nat} {l : List (List Nat)} : eqTree (n + 1) (.lst (wdsD l)) = true := by
  show (wdsD l).all (eqTree n) = true
  unfold wdsD
  rw [List.all_map, List.all_eq_true]
  exact fun p _ => by cases n <;> rfl
theorem flat_mvs {l : List (Mv × Int)} : flatL (mvsD l) = true := flatL_map fun _ => rfl
theorem flat_wds {l : List (List Nat)} : flatL (wdsD l) = true := flatL_map fun _ => rfl
theorem flat_prs {l : List (Mv × Int)} : flatL (prsD l) = true := flatL_map fun _ => rfl
@[simp] theorem mvsD_len {l : List (Mv × Int)} : (mvsD l).length = l.length := by simp [mvsD]
@[simp] theorem wdsD_len {l : List (List Nat)} : (wdsD l).length = l.length := by simp [wdsD]
@[simp] theorem prsD_len {l : List (Mv × Int)} : (prsD l).length = l.length := by simp [prsD]
theorem intsOf_prs {l : List (Mv × Int)} : intsOf (prsD l) = some (l.map Prod.snd) := intsOf_map
/-! ### what stands on top: a dict of places -/
abbrev Tops := List (Nat × Nat)
def topsD (l : Tops) : D := .dic (l.map fun p => .str [p.1]) (l.map fun p => .int (p.2 : Int))
def putT (c k : Nat) (l : Tops) : Tops := if l.any (·.1 == c) then l.map (fun p => if p.1 = c then (p.1, k) else p) else l ++ [(c, k)]
theorem keq_str1 {a b : Nat} : keq (.str [a]) (.str [b]) = (a == b) := by
  show ([a] == [b]) = _
  by_cases h : a = b <;> simp [h]
theorem replD_tops (c k : Nat) : ∀ l : Tops, replD (.str [c]) (.int (k : Int)) (l.map fun p => .str [p.1]) (l.map fun p => .int (p.2 : Int)) = (l.map (fun p => if p.1 = c then (p.1, k) else p)).map fun p => .int (p.2 : Int)
  | [] => rfl
  | p :: l => by
    show (if keq (.str [p.1]) (.str [c]) then D.int (k : Int) else .int (p.2 : Int)) :: replD _ _ _ _ = _
    rw [replD_tops c k l, keq_str1, List.map_cons, List.map_cons]
    by_cases h : p.1 = c <;> simp [h]
theorem putD_tops (c k : Nat) (l : Tops) : D.dic (putD (.str [c]) (.int (k : Int)) (l.map fun p => .str [p.1]) (l.map fun p => .int (p.2 : Int))).1 (putD (.str [c]) (.int (k : Int)) (l.map fun p => .str [p.1]) (l.map fun p => .int (p.2 : Int))).2 = topsD (putT c k l) := by
  unfold putD putT topsD
  have e : (l.map fun p : Nat × Nat => D.str [p.1]).any (keq · (.str [c])) = l.any (·.1 == c) := by
    rw [List.any_map]
    congr 1
    funext p
    exact keq_str1
  rw [e]
  split
  · rw [replD_tops]
    have e2 : (l.map fun p : Nat × Nat => D.str [p.1]) = (l.map (fun p => if p.1 = c then (p.1, k) else p)).map fun p => .str [p.1] := by
      rw [List.map_map]
      exact List.map_congr_left fun p _ => by
        show D.str [p.1] = D.str [(if p.1 = c then (p.1, k) else p).1]
        split <;> rfl
    show D.dic (l.map fun p : Nat × Nat => D.str [p.1]) _ = _
    rw [e2]
  · simp
/-- after the first i crates -/
structure TopsAt (w : List Nat) (i : Nat) (l : Tops) : Prop where
  vals : ∀ p ∈ l, p.2 < i ∧ w[p.2]? = some p.1 ∧ ∀ j, p.2 < j → j < i → w[j]? ≠ some p.1
  keys : ∀ j, j < i → ∀ c, w[j]? = some c → ∃ p ∈ l, p.1 = c
  len : l.length ≤ i
theorem TopsAt.nil {w : List Nat} : TopsAt w 0 [] := ⟨fun _ h => (by cases h), fun j h => absurd h (Nat.not_lt_zero j), Nat.le_refl _⟩
theorem TopsAt.put {w : List Nat} {i c : Nat} {l : Tops} (h : TopsAt w i l) (hc : w[i]? = some c) : TopsAt w (i + 1) (putT c i l) := by
  have key : ∀ p ∈ putT c i l, (p ∈ l ∧ p.1 ≠ c) ∨ p = (c, i) := by
    intro p hp
    unfold putT at hp
    split at hp
    · obtain ⟨q, hq, e⟩ := List.mem_map.mp hp
      by_cases z : q.1 = c
      · rw [if_pos z] at e
        exact .inr (by rw [← e, z])
      · rw [if_neg z] at e
        rw [← e]
        exact .inl ⟨hq, z⟩
    · rename_i ha
      rcases List.mem_append.mp hp with z | z
      · refine .inl ⟨z, fun e => ha (List.any_eq_true.mpr ⟨p, z, by simp [e]⟩)⟩
      · exact .inr (by simpa using z)
  refine ⟨fun p hp => ?_, fun j hj d hd => ?_, ?_⟩
  · rcases key p hp with ⟨z, hn⟩ | z
    · obtain ⟨h1, h2, h3⟩ := h.vals p z
      refine ⟨by omega, h2, fun j hj1 hj2 => ?_⟩
      by_cases e : j = i
      · rw [e, hc]
        exact fun q => hn (by injection q with q; exact q.symm)
      · exact h3 j hj1 (by omega)
    · subst z
      exact ⟨Nat.lt_succ_self _, hc, fun j h1 h2 => by simp only at h1; omega⟩
  · by_cases e : d = c
    · subst e
      unfold putT
      split
      · rename_i ha
        obtain ⟨q, hq, e⟩ := List.any_eq_true.mp ha
        have e : q.1 = d := by simpa using e
        exact ⟨_, List.mem_map.mpr ⟨q, hq, rfl⟩, by rw [if_pos e]; exact e⟩
      · exact ⟨(d, i), by simp, rfl⟩
    · by_cases e2 : j = i
      · rw [e2, hc] at hd
        injection hd with hd
        exact absurd hd.symm e
      · obtain ⟨p, hp, e3⟩ := h.keys j (by omega) d hd
        unfold putT
        split
        · exact ⟨_, List.mem_map.mpr ⟨p, hp, rfl⟩, by rw [if_neg (by rw [e3]; exact e)]; exact e3⟩
        · exact ⟨p, List.mem_append_left _ hp, e3⟩
  · unfold putT
    have := h.len
    split
    · simp; omega
    · simp; omega
theorem lookD_tops (c : Nat) : ∀ l : Tops, lookD (.str [c]) (l.map fun p => .str [p.1]) (l.map fun p => .int (p.2 : Int)) = (l.find? (·.1 == c)).map fun p => .int (p.2 : Int)
  | [] => rfl
  | p :: l => by
    show (if keq (.str [p.1]) (.str [c]) then some (D.int (p.2 : Int)) else lookD _ _ _) = _
    rw [keq_str1, lookD_tops c l, List.find?_cons]
    cases p.1 == c <;> rfl
/-- what tops.get(c, -1) gives -/
def topI (c : Nat) (l : Tops) : Int := match l.find? (·.1 == c) with
  | some p => p.2
  | none => -1
theorem get2_tops {c : Nat} {l : Tops} : get2R (lookD (.str [c]) (l.map fun p => .str [p.1]) (l.map fun p => .int (p.2 : Int))) (.int (-1)) = (.all, .int (topI c l)) := by
  rw [lookD_tops]
  unfold topI
  cases l.find? (·.1 == c) <;> rfl
theorem TopsAt.clear {w : List Nat} {l : Tops} (h : TopsAt w w.length l) {p : Nat × Nat} (hp : p ∈ l) {c : Nat} (hc : topI c l < (p.2 : Int)) (hn : c ≠ p.1) : ∀ x ∈ w.drop (p.2 + 1), x ≠ p.1 ∧ x ≠ c := by
  intro x hx
  obtain ⟨i, hi⟩ := List.mem_iff_getElem?.mp hx
  rw [List.getElem?_drop] at hi
  have lt := (List.getElem?_eq_some_iff.mp hi).1
  obtain ⟨h1, h2, h3⟩ := h.vals p hp
  refine ⟨fun z => h3 _ (by omega) lt (by rw [hi, z]), fun z => ?_⟩
  subst z
  obtain ⟨q, hq, e⟩ := h.keys _ lt x hi
  unfold topI at hc
  cases f : l.find? (·.1 == x) with
  | none =>
    have := List.find?_eq_none.mp f q hq
    simp [e] at this
  | some q2 =>
    rw [f] at hc
    simp only at hc
    have m2 := List.mem_of_find?_eq_some f
    have e2 : q2.1 = x := by simpa using List.find?_some f
    obtain ⟨_, _, h6⟩ := h.vals q2 m2
    exact h6 _ (by omega) lt (by rw [hi, e2])
theorem mem_insertI {i x : Int} : ∀ {l : List Int}, x ∈ insertI i l → x = i ∨ x ∈ l
  | [], h => by simpa [insertI] using h
  | j :: l, h => by
    unfold insertI at h
    split at h
    · simpa using h
    · rcases List.mem_cons.mp h with z | z
      · exact .inr (by simp [z])
      · rcases mem_insertI z with y | y
        · exact .inl y
        · exact .inr (by simp [y])
theorem mem_sortI {x : Int} : ∀ {l : List Int}, x ∈ sortI l → x ∈ l
  | [], h => by cases h
  | j :: l, h => by
    rcases mem_insertI (show x ∈ insertI j (sortI l) from h) with z | z
    · simp [z]
    · simp [mem_sortI z]
/-- the last move, or none -/
def lastD : Option Mv → D
  | none => .non
  | some m => mvD m
theorem deq_mv {m k : Mv} : deqF (mvD m) (mvD k) = some (decide (m = k)) := by
  rw [deqF_is]
  unfold mvD
  simp
  obtain ⟨a, b⟩ := m
  obtain ⟨c, d⟩ := k
  by_cases h1 : a = c <;> by_cases h2 : b = d <;> simp [h1, h2] <;> omega
theorem last_in (o : Option Mv) (l : List Mv) : ∃ b, cmpD .inn (lastD o) (.lst (l.map mvD)) = some b ∧ (b = true → ∃ m ∈ l, lastD o = mvD m) := by
  rw [cmp_inn_l]
  cases o with
  | none =>
    refine ⟨false, ?_, fun h => by cases h⟩
    induction l with
    | nil => rfl
    | cons m l ih =>
      rw [List.map_cons, List.map_cons, show deqF (mvD m) (lastD none) = some false from rfl, anyOc, ih]
      rfl
  | some k =>
    refine ⟨decide (k ∈ l), ?_, fun h => ⟨k, of_decide_eq_true h, rfl⟩⟩
    induction l with
    | nil => rfl
    | cons m l ih =>
      rw [List.map_cons, List.map_cons, show lastD (some k) = mvD k from rfl, deq_mv, anyOc, show mvD k = lastD (some k) from rfl, ih]
      simp [List.mem_cons, eq_comm]
/-- a row handed as a list, as a tuple -/
def handD (tp : Bool) (l : List (Mv × Int)) : D := if tp then .tup (mvsD l) else .lst (mvsD l)
@[simp] theorem hand_ty {tp : Bool} {l : List (Mv × Int)} {kc : Nat → Bool} : tyOk kc (handD tp l) = true := by cases tp <;> rfl
@[simp] theorem hand_list {tp : Bool} {l : List (Mv × Int)} : (tyD .list (handD tp l) || tyD .tuple (handD tp l)) = true := by cases tp <;> rfl
@[simp] theorem hand_len {tp : Bool} {l : List (Mv × Int)} {env : Env} {st : Store} : biD env st .len [handD tp l] = .ok (.all, .int l.length) st := by
  cases tp
  · show biD env st .len [.lst (mvsD l)] = _
    rw [bi_len_lst, mvsD_len]
  · show biD env st .len [.tup (mvsD l)] = _
    rw [bi_len_tup, mvsD_len]
@[simp] theorem hand_seq {tp : Bool} {l : List (Mv × Int)} : seqD (handD tp l) = some (mvsD l) := by cases tp <;> rfl
@[simp] theorem hand_seqE {tp : Bool} {l : List (Mv × Int)} : seqE (handD tp l) = some (mvsD l) := by cases tp <;> rfl
theorem wdsD_snoc {l : List (List Nat)} {w : List Nat} : wdsD l ++ [.str w] = wdsD (l ++ [w]) := by simp [wdsD]
theorem prsD_snoc {l : List (Mv × Int)} {m : Mv} {x : Int} : prsD l ++ [.int x] = prsD (l ++ [(m, x)]) := by simp [prsD]
theorem mvsD_snoc {l : List (Mv × Int)} {m : Mv} {x : Int} : mvsD l ++ [mvD m] = mvsD (l ++ [(m, x)]) := by simp [mvsD]
theorem wdsD_last {l : List (List Nat)} {w : List Nat} : (wdsD (l ++ [w]))[l.length]? = some (.str w) := by simp [wdsD]
theorem wdsD_end {w : List Nat} {l : List (Mv × Int)} : (wdsD (wds w l))[l.length]? = some (.str (endW w l)) := by
  unfold wdsD
  rw [List.getElem?_map, wds_last]
  rfl
@[simp] theorem flatO_rows {rs : Rows} : flatO (rowsD rs) = .no := (rfl)
@[simp] theorem flat_rows {rs : Rows} : flat (rowsD rs) = false := (rfl)
@[simp] theorem flatO_mv {m : Mv} : flatO (mvD m) = .all := (rfl)
@[simp] theorem flat_mv {m : Mv} : flat (mvD m) = true := (rfl)
@[simp] theorem sub_mv0 {st : Store} {o : Own} {m : Mv} : subD st o (mvD m) (.int 0) = some (.all, .int (m.1 : Int)) := by cases o <;> rfl
@[simp] theorem sub_mv1 {st : Store} {o : Own} {m : Mv} : subD st o (mvD m) (.int 1) = some (.all, .str [m.2]) := by cases o <;> rfl
@[simp] theorem flatO_tops {l : Tops} : flatO (topsD l) = .no := (rfl)
@[simp] theorem meOk_tops {l : Tops} : meOk .get2 (topsD l) = true := (rfl)
@[simp] theorem me_get2_tops {l : Tops} {c : Nat} : meD .get2 (topsD l) [.str [c], .int (-1)] = some (.all, .int (topI c l)) := by
  unfold topsD
  rw [me_get2, isKey_str, if_pos rfl, get2_tops]
theorem sv_tops {l : Tops} (h : l.length < 64) : svD (topsD l) = some (.all, .lst ((sortI (l.map fun p => (p.2 : Int))).map .int)) := by
  unfold topsD
  rw [svD_dic, intsOf_map (f := fun p : Nat × Nat => (p.2 : Int))]
  show (if (l.map fun p : Nat × Nat => (p.2 : Int)).length < 64 then _ else _) = _
  rw [List.length_map, if_pos h]
theorem insertI_len {i : Int} : ∀ l : List Int, (insertI i l).length = l.length + 1
  | [] => rfl
  | j :: l => by
    unfold insertI
    split
    · rfl
    · rw [List.length_cons, insertI_len l]; rfl
theorem sortI_len : ∀ l : List Int, (sortI l).length = l.length
  | [] => rfl
  | j :: l => by
    show (insertI j (sortI l)).length = _
    rw [insertI_len, sortI_len l]; rfl
/-- moves that are allowed -/
def Goods (rs : Rows) (w : List Nat) (F : List (Mv × Int)) : Prop := ∀ p ∈ F, ∃ a, GoodMv rs w p.1 a p.2
theorem Goods.nil {rs : Rows} {w : List Nat} : Goods rs w [] := fun _ h => (by cases h)
theorem Goods.snoc {rs : Rows} {w : List Nat} {F : List (Mv × Int)} {m : Mv} {a : Nat} {x : Int} (h : Goods rs w F) (g : GoodMv rs w m a x) : Goods rs w (F ++ [(m, x)]) := by
  intro b hb
  rcases List.mem_append.mp hb with z | z
  · exact h b z
  · have z : b = (m, x) := by simpa using z
    rw [z]
    exact ⟨_, g⟩
theorem last_inF (o : Option Mv) (F : List (Mv × Int)) : ∃ b, cmpD .inn (lastD o) (.lst (mvsD F)) = some b ∧ (b = true → ∃ p ∈ F, lastD o = mvD p.1) := by
  obtain ⟨b, e, h⟩ := last_in o (F.map Prod.fst)
  rw [List.map_map] at e
  refine ⟨b, e, fun z => ?_⟩
  obtain ⟨m, hm, e2⟩ := h z
  obtain ⟨p, hp, rfl⟩ := List.mem_map.mp hm
  exact ⟨p, hp, e2⟩
@[simp] theorem flatO_last {o : Option Mv} : flatO (lastD o) = .all := by cases o <;> rfl
theorem eq_nil_mvs {F : List (Mv × Int)} : deqN true 30 (.lst (mvsD F)) (.lst []) = some F.isEmpty := by
  cases F with
  | nil => rfl
  | cons p F =>
    rw [deq_ll, if_neg (by simp)]
    rfl
theorem cut0 {α : Type} (xs : List α) (k : Nat) : cut xs 0 k = xs.take k := rfl
theorem slc_rows {rs : Rows} {d : Nat} (h : d ≤ rs.length) : slcD (rowsD rs) .non (.int (d : Int)) = some (newO (rs.map rowD), rowsD (rs.take d)) := by
  unfold rowsD
  rw [slc_lst, bnd_non, bnd_nat]
  simp [cut0, List.map_take, h]
@[simp] theorem child_top : child .top = .no := (rfl)
@[simp] theorem child_no : child .no = .no := (rfl)
@[simp] theorem child_all : child .all = .all := (rfl)
theorem rows_take {rs : Rows} {d : Nat} (h : rs.all goodRow = true) : (rs.take d).all goodRow = true := by
  rw [List.all_eq_true] at *
  exact fun x hx => h x (List.mem_of_mem_take hx)
theorem word_take {w : List Nat} {d : Nat} (h : okWord w = true) : okWord (w.take d) = true := by
  unfold okWord at *
  rw [List.all_eq_true] at *
  exact fun x hx => h x (List.mem_of_mem_take hx)
theorem part_len (n : Nat) (l : List (Mv × Int)) : (part n l).length ≤ l.length := List.length_filter_le _ _
theorem rpD_cost {l : List (Mv × Int)} (h : ∀ p ∈ l, 0 < p.2 ∧ p.2 < 1000000000000000000000000000000) (hl : l.length ≤ 1000) : ∃ t, rpD (.int (cost l)) = some t := by
  have c := cost_lt h
  refine rpD_int (Nat.lt_of_lt_of_le (m := 2 ^ 200) ?_ (Nat.pow_le_pow_right (by omega) (by omega)))
  have e : (2 : Nat) ^ 200 = 1606938044258990275541962092341162602522202993782792835301376 := by decide
  rw [e]
  omega
end PD
/-! PN: yards backwards, rows back, rows without rings -/
namespace PD
def bkIx : List Nat := [2, 4, 0, 5, 1, 3]
def backR (r : List (Option Int)) : List (Option Int) := bkIx.map fun i => (r[i]?).getD none
def backRs (rs : Rows) : Rows := rs.map backR
@[simp] theorem backRs_len {rs : Rows} : (backRs rs).length = rs.length := by simp [backRs]
theorem backR_good {r : List (Option Int)} (h : goodRow r = true) : goodRow (backR r) = true := by
  unfold goodRow at *
  simp only [Bool.and_eq_true] at *
  refine ⟨decide_eq_true (by simp [backR, bkIx]), ?_⟩
  rw [List.all_eq_true] at *
  intro p hp
  obtain ⟨i, _, rfl⟩ := List.mem_map.mp hp
  cases e : r[i]? with
  | none => rfl
  | some q => exact h.2 q (List.mem_of_getElem? e)
theorem backRs_good {rs : Rows} (h : rs.all goodRow = true) : (backRs rs).all goodRow = true := by
  rw [List.all_eq_true] at *
  intro r hr
  obtain ⟨q, hq, rfl⟩ := List.mem_map.mp hr
  exact backR_good (h q hq)
theorem prc_back {rs : Rows} {k a b : Nat} (hk : k < rs.length) (ha : isPl a = true) (hb : isPl b = true) (hn : a ≠ b) : prc (backRs rs) k b a = prc rs k a b := by
  unfold prc backRs
  have e : rs[k]? = some rs[k] := List.getElem?_eq_getElem hk
  rw [List.getElem?_map, e]
  simp only [Option.map_some, Option.getD_some]
  generalize rs[k] = r
  rcases isPl_by ha with rfl | rfl | rfl <;> rcases isPl_by hb with rfl | rfl | rfl <;> first | (exact absurd rfl hn) | rfl
/-- the moves that lead back, the last one first -/
def bkr (w : List Nat) : List (Mv × Int) → List (Mv × Int)
  | [] => []
  | p :: l => bkr (stp w p.1) l ++ [((p.1.1, (w[p.1.1]?).getD 0), p.2)]
theorem bkr_len : ∀ (w : List Nat) (l : List (Mv × Int)), (bkr w l).length = l.length
  | _, [] => rfl
  | w, p :: l => by
    show (bkr (stp w p.1) l ++ [_]).length = _
    rw [List.length_append, bkr_len]
    rfl
theorem bkr_snoc (q : Mv × Int) : ∀ (w : List Nat) (l : List (Mv × Int)), bkr w (l ++ [q]) = ((q.1.1, ((endW w l)[q.1.1]?).getD 0), q.2) :: bkr w l
  | _, [] => rfl
  | w, p :: l => by
    show bkr (stp w p.1) (l ++ [q]) ++ [_] = _ :: (bkr (stp w p.1) l ++ [_])
    rw [bkr_snoc q (stp w p.1) l]
    rfl
theorem wds_snoc (q : Mv × Int) : ∀ (w : List Nat) (l : List (Mv × Int)), wds w (l ++ [q]) = wds w l ++ [stp (endW w l) q.1]
  | _, [] => rfl
  | w, p :: l => by
    show w :: wds (stp w p.1) (l ++ [q]) = w :: (wds (stp w p.1) l ++ [_])
    rw [wds_snoc q (stp w p.1) l]
    rfl
theorem cost_app (l k : List (Mv × Int)) : cost (l ++ k) = cost l + cost k := by simp [cost]
theorem stp_back {w : List Nat} {m : Mv} {a : Nat} (h : w[m.1]? = some a) : stp (stp w m) (m.1, a) = w := by
  unfold stp
  rw [List.set_set]
  obtain ⟨lt, e⟩ := List.getElem?_eq_some_iff.mp h
  show w.set m.1 a = w
  rw [← e]
  exact List.set_getElem_self lt
theorem GoodMv.back {rs : Rows} {w : List Nat} {m : Mv} {a : Nat} {x : Int} (g : GoodMv rs w m a x) (hw : w.length = rs.length) (ho : okWord w = true) : GoodMv (backRs rs) (stp w m) (m.1, a) m.2 x where
  here := by
    have := g.lt
    simp [stp, this]
  pl := g.pla ho
  ne := fun e => g.ne e.symm
  top := fun c hc => by
    have e : (stp w m).drop (m.1 + 1) = w.drop (m.1 + 1) := by
      unfold stp
      rw [List.drop_set_of_lt (by omega)]
    have hc' : c ∈ w.drop (m.1 + 1) := by rw [← e]; exact hc
    have := g.top c hc'
    exact ⟨this.2, this.1⟩
  pr := by
    have := g.lt
    show prc (backRs rs) m.1 m.2 a = some x
    rw [prc_back (by omega) (g.pla ho) g.pl g.ne]
    exact g.pr
/-- a row led back -/
structure Back (rs : Rows) (w : List Nat) (l : List (Mv × Int)) : Prop where
  row : GoodRow (backRs rs) (endW w l) (bkr w l)
  fin : endW (endW w l) (bkr w l) = w
  wrd : wds (endW w l) (bkr w l) = (wds w l).reverse
  cst : cost (bkr w l) = cost l
  twice : bkr (endW w l) (bkr w l) = l
theorem GoodRow.back {rs : Rows} : ∀ {l : List (Mv × Int)} {w : List Nat}, GoodRow rs w l → w.length = rs.length → okWord w = true → Back rs w l
  | [], _, _, _, _ => ⟨.nil, rfl, rfl, rfl, rfl⟩
  | (m, x) :: l, w, .cons (a := a) g t, hw, ho => by
    have B := GoodRow.back t (by rw [stp_len]; exact hw) (stp_ok ho g.pl)
    have ea : (w[m.1]?).getD 0 = a := by rw [g.here]; rfl
    have eb : bkr w ((m, x) :: l) = bkr (stp w m) l ++ [((m.1, a), x)] := by
      show bkr (stp w m) l ++ [((m.1, (w[m.1]?).getD 0), x)] = _
      rw [ea]
    have ew : endW w ((m, x) :: l) = endW (stp w m) l := rfl
    have gb := g.back hw ho
    have sb := stp_back g.here
    refine ⟨?_, ?_, ?_, ?_, ?_⟩
    · rw [eb, ew]
      exact B.row.snoc (by rw [B.fin]; exact gb)
    · rw [eb, ew, endW_app, B.fin]
      exact sb
    · rw [eb, ew, wds_snoc, B.wrd, B.fin]
      show (wds (stp w m) l).reverse ++ [stp (stp w m) (m.1, a)] = (w :: wds (stp w m) l).reverse
      rw [sb, List.reverse_cons]
    · rw [eb, cost_app, B.cst]
      simp [cost]
      omega
    · rw [eb, ew, bkr_snoc, B.twice, B.fin]
      have := gb.here
      show ((m.1, ((stp w m)[m.1]?).getD 0), x) :: l = _
      rw [show (stp w m)[m.1]? = some m.2 from this]
      rfl
/-! ### rows without rings -/
theorem wds_head (w : List Nat) (l : List (Mv × Int)) : w ∈ wds w l := by cases l <;> simp [wds]
theorem endW_mem : ∀ (w : List Nat) (a s : List (Mv × Int)), endW w a ∈ wds w (a ++ s)
  | w, [], s => wds_head w s
  | w, p :: a, s => by
    show endW (stp w p.1) a ∈ w :: wds (stp w p.1) (a ++ s)
    exact List.mem_cons_of_mem _ (endW_mem _ a s)
/-- behind w's last time in l -/
def aftR (w : List Nat) (l s : List (Mv × Int)) : Prop := ∃ t, l = t ++ s ∧ endW w t = w ∧ w ∉ (wds w s).tail
theorem aft_from (w : List Nat) : ∀ (l : List (Mv × Int)) (now : List Nat), w ∈ wds now l → ∃ t s, l = t ++ s ∧ endW now t = w ∧ w ∉ (wds w s).tail
  | [], now, h => by
    have e : w = now := by simpa [wds] using h
    subst e
    exact ⟨[], [], rfl, rfl, by simp [wds]⟩
  | p :: l, now, h => by
    by_cases q : w ∈ wds (stp now p.1) l
    · obtain ⟨t, s, e1, e2, e3⟩ := aft_from w l _ q
      exact ⟨p :: t, s, by rw [e1]; rfl, e2, e3⟩
    · have e : w = now := by
        rcases List.mem_cons.mp (show w ∈ now :: wds (stp now p.1) l from h) with z | z
        · exact z
        · exact absurd z q
      subst e
      exact ⟨[], p :: l, rfl, rfl, q⟩
theorem aft_ex (w : List Nat) (l : List (Mv × Int)) : ∃ s, aftR w l s := by
  obtain ⟨t, s, h⟩ := aft_from w l w (wds_head w l)
  exact ⟨s, t, h⟩
theorem aft_same {w : List Nat} {a s s' : List (Mv × Int)} (e : s = a ++ s') (ha : endW w a = w) (h : w ∉ (wds w s).tail) : s = s' := by
  cases a with
  | nil => exact e
  | cons q a =>
    refine absurd ?_ h
    rw [e]
    show w ∈ wds (stp w q.1) (a ++ s')
    have := endW_mem (stp w q.1) a s'
    rwa [show endW (stp w q.1) a = w from ha] at this
theorem aft_uniq {w : List Nat} {l s s' : List (Mv × Int)} (h : aftR w l s) (h' : aftR w l s') : s = s' := by
  obtain ⟨t, e1, e2, e3⟩ := h
  obtain ⟨t', e1', e2', e3'⟩ := h'
  rw [e1] at e1'
  rcases List.append_eq_append_iff.mp e1' with ⟨a, h1, h2⟩ | ⟨a, h1, h2⟩
  · refine aft_same h2 ?_ e3
    rw [h1, endW_app, e2] at e2'
    exact e2'
  · refine (aft_same h2 ?_ e3').symm
    rw [h1, endW_app, e2'] at e2
    exact e2
inductive Cut : List Nat → List (Mv × Int) → List (Mv × Int) → Prop
  | nil {w : List Nat} {l : List (Mv × Int)} (h : aftR w l []) : Cut w l []
  | cons {w : List Nat} {l s c : List (Mv × Int)} {p : Mv × Int} (h : aftR w l (p :: s)) (t : Cut (stp w p.1) s c) : Cut w l (p :: c)
theorem cut_ex : ∀ (n : Nat) (w : List Nat) (l : List (Mv × Int)), l.length ≤ n → ∃ c, Cut w l c
  | 0, w, l, h => by
    obtain rfl : l = [] := List.length_eq_zero_iff.mp (by omega)
    exact ⟨[], .nil ⟨[], rfl, rfl, by simp [wds]⟩⟩
  | n + 1, w, l, h => by
    obtain ⟨s, hs⟩ := aft_ex w l
    cases s with
    | nil => exact ⟨[], .nil hs⟩
    | cons p s =>
      have hl : s.length ≤ n := by
        obtain ⟨t, e, _⟩ := hs
        have := congrArg List.length e
        simp at this
        omega
      obtain ⟨c, hc⟩ := cut_ex n (stp w p.1) s hl
      exact ⟨p :: c, .cons hs hc⟩
theorem GoodRow.suffix {rs : Rows} : ∀ {t s : List (Mv × Int)} {w : List Nat}, GoodRow rs w (t ++ s) → GoodRow rs (endW w t) s
  | [], _, _, h => h
  | _ :: t, s, _, .cons _ h => GoodRow.suffix (t := t) (s := s) h
theorem wds_app_mem : ∀ (w : List Nat) (t s : List (Mv × Int)) (v : List Nat), v ∈ wds (endW w t) s → v ∈ wds w (t ++ s)
  | _, [], _, _, h => h
  | w, p :: t, s, v, h => List.mem_cons_of_mem _ (wds_app_mem (stp w p.1) t s v h)
theorem Cut.good {rs : Rows} {w : List Nat} {l c : List (Mv × Int)} (h : Cut w l c) : GoodRow rs w l → GoodRow rs w c := by
  induction h with
  | nil h => exact fun _ => .nil
  | cons h t ih =>
    intro g
    obtain ⟨u, e1, e2, _⟩ := h
    rw [e1] at g
    have g2 := g.suffix
    rw [e2] at g2
    cases g2 with
    | cons gm gt => exact .cons gm (ih gt)
theorem Cut.fin {w : List Nat} {l c : List (Mv × Int)} (h : Cut w l c) : endW w c = endW w l := by
  induction h with
  | nil h =>
    obtain ⟨u, e1, e2, _⟩ := h
    rw [e1, endW_app, e2]
  | cons h t ih =>
    obtain ⟨u, e1, e2, _⟩ := h
    rw [e1, endW_app, e2]
    exact ih
theorem Cut.len {w : List Nat} {l c : List (Mv × Int)} (h : Cut w l c) : c.length ≤ l.length := by
  induction h with
  | nil h => exact Nat.zero_le _
  | cons h t ih =>
    obtain ⟨u, e1, _⟩ := h
    rw [e1]
    simp
    omega
theorem Cut.sub {w : List Nat} {l c : List (Mv × Int)} (h : Cut w l c) : ∀ v ∈ wds w c, v ∈ wds w l := by
  induction h with
  | @nil w l h =>
    intro v hv
    have e : v = w := by simpa [wds] using hv
    rw [e]
    exact wds_head _ _
  | @cons w l s c p h t ih =>
    intro v hv
    obtain ⟨u, e1, e2, _⟩ := h
    rcases List.mem_cons.mp (show v ∈ w :: wds (stp w p.1) c from hv) with z | z
    · rw [z]; exact wds_head _ _
    · rw [e1]
      refine wds_app_mem w u _ v ?_
      rw [e2]
      exact List.mem_cons_of_mem _ (ih v z)
theorem Cut.nodup {w : List Nat} {l c : List (Mv × Int)} (h : Cut w l c) : (wds w c).Nodup := by
  induction h with
  | nil h => simp [wds]
  | @cons w l s c p h t ih =>
    obtain ⟨u, e1, e2, e3⟩ := h
    exact List.nodup_cons.mpr ⟨fun z => e3 (t.sub w z), ih⟩
theorem Cut.cost {w : List Nat} {l c : List (Mv × Int)} (h : Cut w l c) : (∀ p ∈ l, 0 < p.2) → PD.cost c ≤ PD.cost l := by
  have pos : ∀ l : List (Mv × Int), (∀ p ∈ l, 0 < p.2) → 0 ≤ PD.cost l := by
    intro l
    induction l with
    | nil => intro _; simp [PD.cost]
    | cons p l ih =>
      intro h
      have h1 := h p (by simp)
      have h2 := ih fun q hq => h q (by simp [hq])
      have e : PD.cost (p :: l) = p.2 + PD.cost l := rfl
      omega
  induction h with
  | nil h => exact fun hp => pos _ hp
  | @cons w l s c p h t ih =>
    intro hp
    obtain ⟨u, e1, _⟩ := h
    have i := ih fun q hq => hp q (by rw [e1]; simp [hq])
    have j := pos u fun q hq => hp q (by rw [e1]; simp [hq])
    have e2 : PD.cost l = PD.cost u + (p.2 + PD.cost s) := by rw [e1, cost_app]; rfl
    have e3 : PD.cost (p :: c) = p.2 + PD.cost c := rfl
    omega
theorem cut_self : ∀ (w : List Nat) (c : List (Mv × Int)), (wds w c).Nodup → Cut w c c
  | w, [], _ => .nil ⟨[], rfl, rfl, by simp [wds]⟩
  | w, p :: c, h => by
    obtain ⟨h1, h2⟩ := List.nodup_cons.mp (show (w :: wds (stp w p.1) c).Nodup from h)
    exact .cons ⟨[], rfl, rfl, h1⟩ (cut_self _ c h2)
theorem Cut.det {w : List Nat} {l c c' : List (Mv × Int)} (h : Cut w l c) : Cut w l c' → c = c' := by
  induction h generalizing c' with
  | nil h =>
    intro h'
    cases h' with
    | nil _ => rfl
    | cons h2 t2 => cases aft_uniq h h2
  | cons h t ih =>
    intro h'
    cases h' with
    | nil h2 => cases aft_uniq h h2
    | cons h2 t2 =>
      cases aft_uniq h h2
      rw [ih t2]
theorem diffN_nodup : ∀ l : List (List Nat), l.Nodup → diffN l = l.length
  | [], _ => rfl
  | x :: xs, h => by
    obtain ⟨h1, h2⟩ := List.nodup_cons.mp h
    show (if xs.contains x then 0 else 1) + diffN xs = _
    rw [if_neg (fun z => h1 (List.contains_iff_mem.mp z)), diffN_nodup xs h2, List.length_cons]
    omega
/-- the arrangement behind i moves -/
theorem wds_at : ∀ (w : List Nat) (l : List (Mv × Int)) (i : Nat), i ≤ l.length → (wds w l)[i]? = some (endW w (l.take i))
  | w, [], i, h => by
    obtain rfl : i = 0 := by simpa using h
    rfl
  | w, p :: l, 0, _ => rfl
  | w, p :: l, i + 1, h => by
    show (w :: wds (stp w p.1) l)[i + 1]? = some (endW (stp w p.1) (l.take i))
    rw [List.getElem?_cons_succ, wds_at _ l i (by simpa using h)]
/-- the last time, by places -/
theorem aft_at {w : List Nat} {l : List (Mv × Int)} {i j : Nat} (hij : i ≤ j) (hj : j ≤ l.length) (he : endW w (l.take j) = endW w (l.take i)) (hn : ∀ k, j < k → k ≤ l.length → endW w (l.take k) ≠ endW w (l.take i)) : aftR (endW w (l.take i)) (l.drop i) (l.drop j) := by
  have tk : ∀ a b, endW (endW w (l.take a)) ((l.drop a).take b) = endW w (l.take (a + b)) := fun a b => by
    rw [← endW_app, List.take_add]
  refine ⟨(l.drop i).take (j - i), ?_, ?_, ?_⟩
  · rw [show l.drop j = (l.drop i).drop (j - i) by rw [List.drop_drop]; congr 1; omega, List.take_append_drop]
  · rw [tk, show i + (j - i) = j by omega]
    exact he
  · intro h
    obtain ⟨k, hk⟩ := List.mem_iff_getElem?.mp h
    rw [List.getElem?_tail, ← he] at hk
    have lt := (List.getElem?_eq_some_iff.mp hk).1
    rw [wds_len, List.length_drop] at lt
    rw [wds_at _ _ _ (by rw [List.length_drop]; omega), tk] at hk
    have hk' : endW w (l.take (j + (k + 1))) = endW w (l.take j) := by injection hk
    exact hn (j + (k + 1)) (by omega) (by omega) (by rw [hk', he])
theorem Cut.jump {w : List Nat} {l s c : List (Mv × Int)} (h : aftR w l s) (k : Cut w l c) : Cut w s c := by
  cases k with
  | nil h2 =>
    obtain rfl := aft_uniq h h2
    exact .nil ⟨[], rfl, rfl, by simp [wds]⟩
  | cons h2 t2 =>
    obtain rfl := aft_uniq h h2
    obtain ⟨_, _, _, e⟩ := h
    exact .cons ⟨[], rfl, rfl, e⟩ t2
theorem Cut.step {w : List Nat} {l c : List (Mv × Int)} {p : Mv × Int} (h : aftR w (p :: l) (p :: l)) (k : Cut w (p :: l) c) : ∃ c', c = p :: c' ∧ Cut (stp w p.1) l c' := by
  cases k with
  | nil h2 => cases aft_uniq h h2
  | cons h2 t2 =>
    cases aft_uniq h h2
    exact ⟨_, rfl, t2⟩
theorem Cut.over {w : List Nat} {c : List (Mv × Int)} (k : Cut w [] c) : c = [] := by
  cases k with
  | nil h2 => rfl
  | cons h2 t2 =>
    obtain ⟨t, e, _⟩ := h2
    cases t <;> cases e
/-- the last time of x -/
theorem last_split (x : List Nat) : ∀ W : List (List Nat), x ∈ W → ∃ A B, W = A ++ x :: B ∧ x ∉ B
  | [], h => by cases h
  | y :: W, h => by
    by_cases q : x ∈ W
    · obtain ⟨A, B, e, n⟩ := last_split x W q
      exact ⟨y :: A, B, by rw [e]; rfl, n⟩
    · rcases List.mem_cons.mp h with z | z
      · exact ⟨[], W, by rw [z]; rfl, q⟩
      · exact absurd z q
/-- .. by its place in the arrangements of a row -/
theorem last_at {w : List Nat} {l : List (Mv × Int)} {i : Nat} (hi : i ≤ l.length) {A B : List (List Nat)} (e : wds w l = A ++ endW w (l.take i) :: B) (n : endW w (l.take i) ∉ B) :
    i ≤ A.length ∧ A.length ≤ l.length ∧ endW w (l.take A.length) = endW w (l.take i) ∧ B.length = l.length - A.length ∧ aftR (endW w (l.take i)) (l.drop i) (l.drop A.length) := by
  have hl := congrArg List.length e
  rw [wds_len, List.length_append, List.length_cons] at hl
  have ha : A.length ≤ l.length := by omega
  have at1 : (wds w l)[A.length]? = some (endW w (l.take i)) := by rw [e]; simp
  rw [wds_at _ _ _ ha] at at1
  have e1 : endW w (l.take A.length) = endW w (l.take i) := by injection at1
  have later : ∀ k, A.length < k → k ≤ l.length → endW w (l.take k) ≠ endW w (l.take i) := by
    intro k h1 h2 h3
    have q := wds_at w l k h2
    rw [e, List.getElem?_append_right (by omega), h3] at q
    obtain ⟨d, hd⟩ : ∃ d, k - A.length = d + 1 := ⟨k - A.length - 1, by omega⟩
    rw [hd, List.getElem?_cons_succ] at q
    exact n (List.mem_of_getElem? q)
  have hia : i ≤ A.length := by
    rcases Nat.lt_or_ge A.length i with z | z
    · exact absurd rfl (later i z hi)
    · exact z
  exact ⟨hia, ha, e1, by omega, aft_at hia ha e1 later⟩
theorem enumD_wds (k : Nat) : ∀ (W : List (List Nat)), enumD (k : Int) (wdsD W) = (W.zipIdx k).map fun q => D.tup [.int (q.2 : Int), .str q.1]
  | [] => rfl
  | x :: W => by
    show D.tup [.int (k : Int), .str x] :: enumD ((k : Int) + 1) (wdsD W) = _
    rw [show (k : Int) + 1 = ((k + 1 : Nat) : Int) by omega, enumD_wds (k + 1) W, List.zipIdx_cons, List.map_cons]
theorem occ_last (x : List Nat) (A B : List (List Nat)) (n : x ∉ B) : ∃ F : List D, ((A ++ x :: B).zipIdx 0).filterMap (fun q => if q.1 = x then some (D.int (q.2 : Int)) else none) = F ++ [.int (A.length : Int)] := by
  have z : ∀ (B : List (List Nat)) (k : Nat), x ∉ B → (B.zipIdx k).filterMap (fun q => if q.1 = x then some (D.int (q.2 : Int)) else none) = [] := by
    intro B
    induction B with
    | nil => intro k _; rfl
    | cons y B ih =>
      intro k h
      rw [List.zipIdx_cons, List.filterMap_cons, if_neg (fun e => h (by simp [← e])), ih (k + 1) fun q => h (by simp [q])]
  rw [List.zipIdx_append, List.filterMap_append, List.zipIdx_cons, List.filterMap_cons, if_pos rfl, z B _ n]
  exact ⟨(A.zipIdx 0).filterMap fun q => if q.1 = x then some (D.int (q.2 : Int)) else none, by simp⟩
theorem findIx_wds (x : List Nat) (A : List (List Nat)) : ∀ B : List (List Nat), x ∉ B → findIx (.str x) (wdsD (B ++ x :: A)) = some B.length := by
  have told : ∀ W : List (List Nat), toldB (.str x) (wdsD W) = some (W.map fun y => y == x) := by
    intro W
    induction W with
    | nil => rfl
    | cons y W ih =>
      show (deqF (.str y) (.str x)).bind (fun b => (toldB (.str x) (wdsD W)).map (b :: ·)) = _
      rw [ih, deqF_is, deq_ss]
      rfl
  intro B n
  unfold findIx
  rw [told]
  show firstT ((B ++ x :: A).map fun y => y == x) = _
  induction B with
  | nil => simp [firstT]
  | cons y B ih =>
    have h1 : (y == x) = false := beq_eq_false_iff_ne.mpr fun e => n (by simp [e])
    rw [List.cons_append, List.map_cons, h1]
    show (if false = true then some 0 else (firstT _).map (· + 1)) = _
    rw [if_neg (by decide), ih fun q => n (by simp [q])]
    rfl
theorem loopW_ok {c : SRho → Store → R VD} {f : SRho → Store → R Fl} {Q : Fl → Store → Prop} (I : Nat → SRho → Store → Prop)
    (step : ∀ k r st, I k r st → ∃ b : Bool, c r st = .ok (.all, .bl b) st ∧ (b = false → Q (.next r) st) ∧ (b = true → Ok (f r st) fun fl st' => match fl with
      | .next r => ∃ k', k' < k ∧ I k' r st'
      | .cnt r => ∃ k', k' < k ∧ I k' r st'
      | .brk r => Q (.next r) st'
      | .ret v => Q (.ret v) st')) : ∀ (n k : Nat) (r : SRho) (st : Store), I k r st → k < n → Ok (loopW c f n r st) Q
  | 0, _, _, _, _, h => absurd h (Nat.not_lt_zero _)
  | n + 1, k, r, st, i, h => by
    obtain ⟨b, e, h1, h2⟩ := step k r st i
    rw [loopW_succ, e, bind_ok, truth_bl, tst_some]
    cases b with
    | false =>
      rw [if_neg (by decide)]
      exact .mk (h1 rfl)
    | true =>
      rw [if_pos rfl]
      refine Ok.bind (h2 rfl) ?_
      intro fl st' hq
      cases fl with
      | next r =>
        obtain ⟨k', lt, i'⟩ := hq
        exact loopW_ok I step n k' r st' i' (by omega)
      | cnt r =>
        obtain ⟨k', lt, i'⟩ := hq
        exact loopW_ok I step n k' r st' i' (by omega)
      | brk r => exact .mk hq
      | ret v => exact .mk hq
theorem enumD_mvs (k : Nat) : ∀ (l : List (Mv × Int)), enumD (k : Int) (mvsD l) = (l.zipIdx k).map fun q => D.tup [.int (q.2 : Int), mvD q.1.1]
  | [] => rfl
  | x :: l => by
    show D.tup [.int (k : Int), mvD x.1] :: enumD ((k : Int) + 1) (mvsD l) = _
    rw [show (k : Int) + 1 = ((k + 1 : Nat) : Int) by omega, enumD_mvs (k + 1) l, List.zipIdx_cons, List.map_cons]
/-- a move back, where the arrangements are known -/
def backAt (W : List (List Nat)) (q : (Mv × Int) × Nat) : Mv := (q.1.1.1, (((W[q.2]?).getD [])[q.1.1.1]?).getD 0)
theorem bkr_zip (W : List (List Nat)) : ∀ (l : List (Mv × Int)) (w : List Nat) (k : Nat), (∀ j, j ≤ l.length → W[k + j]? = (wds w l)[j]?) → (l.zipIdx k).map (fun q => mvD (backAt W q)) = (mvsD (bkr w l)).reverse
  | [], _, _, _ => rfl
  | p :: l, w, k, h => by
    have h0 := h 0 (Nat.zero_le _)
    have e0 : W[k]? = some w := by
      rw [Nat.add_zero] at h0
      rw [h0]
      rfl
    rw [List.zipIdx_cons, List.map_cons, bkr_zip W l (stp w p.1) (k + 1) fun j hj => ?_]
    · show _ = (mvsD (bkr (stp w p.1) l ++ [((p.1.1, (w[p.1.1]?).getD 0), p.2)])).reverse
      unfold mvsD
      rw [List.map_append, List.reverse_append]
      unfold backAt
      simp only [e0, Option.getD_some]
      rfl
    · have := h (j + 1) (by rw [List.length_cons]; omega)
      rw [show k + 1 + j = k + (j + 1) by omega, this]
      rfl
/-! ### a ring of one crate -/
def rs1 : Rows := [[some 1, some 1, some 1, some 1, some 1, some 1]]
def ring : Nat → List (Mv × Int)
  | 0 => []
  | n + 1 => ((0, 98), 1) :: ((0, 99), 1) :: ((0, 97), 1) :: ring n
theorem rep_zero {α : Type} (X : List α) : rep 0 X = [] := rfl
theorem rep_succ {α : Type} (n : Nat) (X : List α) : rep (n + 1) X = X ++ rep n X := by
  unfold rep
  rw [List.replicate_succ, List.flatten_cons]
theorem rep_comm {α : Type} (X : List α) : ∀ n, rep n X ++ X = X ++ rep n X
  | 0 => by simp [rep_zero]
  | n + 1 => by rw [rep_succ, List.append_assoc, rep_comm X n]
theorem good_one {a b : Nat} (ha : isPl a = true) (hb : isPl b = true) (hn : a ≠ b) : GoodMv rs1 [a] (0, b) a 1 where
  here := rfl
  pl := hb
  ne := hn
  top := fun c hc => (by cases hc)
  pr := by rcases isPl_by ha with rfl | rfl | rfl <;> rcases isPl_by hb with rfl | rfl | rfl <;> first | (exact absurd rfl hn) | rfl
theorem ring_good : ∀ n, GoodRow rs1 [97] (ring n)
  | 0 => .nil
  | n + 1 => .cons (good_one rfl rfl (by decide)) (.cons (good_one (a := 98) (b := 99) rfl rfl (by decide)) (.cons (good_one (a := 99) (b := 97) rfl rfl (by decide)) (ring_good n)))
theorem ring_end : ∀ n, endW [97] (ring n) = [97]
  | 0 => rfl
  | n + 1 => ring_end n
theorem ring_len : ∀ n, (ring n).length = 3 * n
  | 0 => rfl
  | n + 1 => by
    show (ring n).length + 3 = _
    rw [ring_len n]
    omega
def rA : List D := [.tup [.int 0, .str [98]], .tup [.int 0, .str [99]], .tup [.int 0, .str [97]]]
def rB : List D := [.tup [.int 0, .str [99]], .tup [.int 0, .str [98]], .tup [.int 0, .str [97]]]
theorem ring_mvs : ∀ n, mvsD (ring n) = rep n rA
  | 0 => rfl
  | n + 1 => by
    rw [rep_succ, ← ring_mvs n]
    rfl
theorem ring_bkr : ∀ n, mvsD (bkr [97] (ring n)) = rep n rB
  | 0 => rfl
  | n + 1 => by
    rw [rep_succ, ← rep_comm, ← ring_bkr n]
    show mvsD (((bkr [97] (ring n) ++ [((0, 99), 1)]) ++ [((0, 98), 1)]) ++ [((0, 97), 1)]) = _
    simp [mvsD, rB, mvD]
theorem ring_cut (n : Nat) : Cut [97] (ring n) [] := .nil ⟨ring n, by simp, ring_end n, by simp [wds]⟩
theorem ring_cut2 (n : Nat) : Cut [97] (ring n ++ [((0, 99), 1)]) [((0, 99), 1)] :=
  .cons ⟨ring n, rfl, ring_end n, by simp [wds, stp]⟩ (.nil ⟨[], rfl, rfl, by simp [wds]⟩)
theorem ring_good2 (n : Nat) : GoodRow rs1 [97] (ring n ++ [((0, 99), 1)]) := (ring_good n).snoc (a := 97) (by rw [ring_end]; exact good_one rfl rfl (by decide))
end PD
/-! PX: statement by statement, the rest kept shut -/
namespace PD
/-- what stays of a block -/
def Rest (env : Env) (wf : Nat) (ss : Sms) (r : SRho) (st : Store) : R Fl := evSs env wf ss r st
section
variable {env : Env} {wf : Nat} {s : Sm} {ss : Sms} {r : SRho} {st : Store} {Q : Fl → Store → Prop}
theorem Rest_cons : Rest env wf (.cons s ss) r st = (evS env wf s r st).bind fun fl st => goOn fl st (Rest env wf ss) := (rfl)
@[simp] theorem Rest_nil : Rest env wf .nil r st = .ok (.next r) st := (rfl)
theorem es_Rest : evSs env wf ss r st = Rest env wf ss r st := (rfl)
/-- the ends of a def -/
def endQ (Q : VD → Store → Prop) : Fl → Store → Prop
  | .next _, st => Q (.all, .non) st
  | .ret v, st => Q v st
  | _, _ => False
@[simp] theorem endQ_next {Q : VD → Store → Prop} : endQ Q (.next r) st = Q (.all, .non) st := (rfl)
@[simp] theorem endQ_ret {Q : VD → Store → Prop} {v : VD} : endQ Q (.ret v) st = Q v st := (rfl)
theorem fn_in {P : Pr} {n f : Nat} {F : Fn} {ds : List D} {Q : VD → Store → Prop} (hF : P.fns[f]? = some F) (hi : F.ini = none) (hl : ds.length = F.np) (h : Ok (Rest (P.env n) P.wf F.body (startS F.ns ds) st) (endQ Q)) : Ok (run P (n + 1) f ds st) Q := by
  rw [run_f hF hi, if_pos hl, Ok_fin]
  refine Ok.mono h fun fl st h => ?_
  cases fl <;> first | exact h | exact h.elim
/-- the ends of a turn -/
def turnQ (I : SRho → Store → Prop) (Q : Fl → Store → Prop) : Fl → Store → Prop
  | .next r, st => I r st
  | .cnt r, st => I r st
  | .brk r, st => Q (.next r) st
  | .ret v, st => Q (.ret v) st
@[simp] theorem turnQ_next {I : SRho → Store → Prop} : turnQ I Q (.next r) st = I r st := (rfl)
@[simp] theorem turnQ_cnt {I : SRho → Store → Prop} : turnQ I Q (.cnt r) st = I r st := (rfl)
@[simp] theorem turnQ_brk {I : SRho → Store → Prop} : turnQ I Q (.brk r) st = Q (.next r) st := (rfl)
@[simp] theorem turnQ_ret {I : SRho → Store → Prop} {v : VD} : turnQ I Q (.ret v) st = Q (.ret v) st := (rfl)
/-- a loop over items that stand for a list: the invariant by what is done and what is left -/
theorem for_list {tg : Tg} {α : Type} (g : α → D) (I : List α → List α → SRho → Store → Prop)
    (step : ∀ d a l r st, I d (a :: l) r st → ∃ r', bindS tg (g a) r = some r' ∧ Ok (Rest env wf ss r' st) (turnQ (I (d ++ [a]) l) Q)) (dn : ∀ d r st, I d [] r st → Q (.next r) st) : ∀ (l d : List α) (r : SRho) (st : Store), I d l r st → Ok (loopF tg (evSs env wf ss) (l.map g) r st) Q
  | [], d, r, st, i => .mk (dn d r st i)
  | a :: l, d, r, st, i => by
    obtain ⟨r', hb, h⟩ := step d a l r st i
    rw [List.map_cons, loopF_cons, hb, loopK_some]
    refine Ok.bind h ?_
    intro fl st' h'
    cases fl with
    | next r => exact for_list g I step dn l _ r st' h'
    | cnt r => exact for_list g I step dn l _ r st' h'
    | brk r => exact .mk h'
    | ret v => exact .mk h'
end
/-- two walks without effects -/
theorem gatherI_pure {h : D → Store → R (Option VD)} {st : Store} {α : Type} (g : α → D) (e : α → Option D) {k : List D → Own → Store → R VD} : ∀ (l : List α) (acc : List D), acc.length + l.length ≤ maxLen → (∀ a ∈ l, h (g a) st = .ok ((e a).map fun d => (.all, d)) st) → gatherI h (l.map g) acc .all st k = k ((l.filterMap e).reverse ++ acc) .all st
  | [], acc, _, _ => by
    show k acc .all st = _
    simp
  | a :: l, acc, hl, hf => by
    rw [List.length_cons] at hl
    show (if maxLen ≤ acc.length then .no else (h (g a) st).bind _) = _
    rw [if_neg (by omega), hf a (by simp), bind_ok]
    cases q : e a with
    | none =>
      show gatherI h (l.map g) acc .all st k = _
      rw [gatherI_pure g e l acc (by omega) fun b hb => hf b (by simp [hb])]
      simp [q]
    | some d =>
      show gatherI h (l.map g) (d :: acc) (if Own.all = .all ∧ Own.all = .all then .all else .top) st k = _
      rw [if_pos ⟨rfl, rfl⟩, gatherI_pure g e l (d :: acc) (by rw [List.length_cons]; omega) fun b hb => hf b (by simp [hb])]
      simp [q]
theorem gather2_pure {f : D → Store → R (Rho × List D)} {h : Rho → D → Store → R (Option VD)} {st : Store} {α β : Type} (ga : α → D) (gb : β → D) (ys : α → List β) (ρ : α → Rho) (e : α → β → Option D) (m : Nat) : ∀ (l : List α) (acc : List D), acc.length + m * l.length ≤ maxLen → (∀ a ∈ l, (ys a).length ≤ m ∧ f (ga a) st = .ok (ρ a, (ys a).map gb) st ∧ ∀ b ∈ ys a, h (ρ a) (gb b) st = .ok ((e a b).map fun d => (.all, d)) st) →
    gather2 f h (l.map ga) acc .all st = .ok (.all, .lst (acc.reverse ++ l.flatMap fun a => (ys a).filterMap (e a))) st
  | [], acc, _, _ => by
    show R.ok (Own.all, D.lst acc.reverse) st = _
    simp
  | a :: l, acc, hl, hf => by
    obtain ⟨h1, h2, h3⟩ := hf a (by simp)
    have z : (m * (a :: l).length) = m * l.length + m := by rw [List.length_cons, Nat.mul_succ]
    show (f (ga a) st).bind _ = _
    rw [h2, bind_ok]
    show gatherI (h (ρ a)) ((ys a).map gb) acc .all st _ = _
    rw [gatherI_pure gb (e a) (ys a) acc (by omega) h3]
    have le : ((ys a).filterMap (e a)).length ≤ m := Nat.le_trans (List.length_filterMap_le _ _) h1
    rw [gather2_pure ga gb ys ρ e m l _ (by rw [List.length_append, List.length_reverse]; omega) fun b hb => hf b (by simp [hb])]
    simp
section
variable {tg : Tg} {r : Rho} {i : Rho → Store → R (List D)} {x : D} {st : Store}
def lcGK (o : Option Rho) (i : Rho → Store → R (List D)) (st : Store) : R (Rho × List D) := match o with
  | some r' => (i r' st).noX.bind fun ys st => .ok (r', ys) st
  | none => .no
theorem lcG_is : lcG tg r i x st = lcGK (bindTg tg x r) i st := by
  unfold lcG lcGK
  cases bindTg tg x r <;> rfl
@[simp] theorem lcGK_some : lcGK (some r) i st = (i r st).noX.bind fun ys st => .ok (r, ys) st := (rfl)
end
end PD
/-! PA: the allowed moves, all of them, in order -/
namespace PD
/-- a and b are not in l -/
def Clear (l : List Nat) (a b : Nat) : Prop := ∀ c ∈ l, c ≠ a ∧ c ≠ b
instance {l : List Nat} {a b : Nat} : Decidable (Clear l a b) := List.decidableBAll _ _
/-- what a move costs, or none where it is not allowed -/
def mvP (rs : Rows) (w : List Nat) (m : Mv) : Option Int := match w[m.1]? with
  | none => none
  | some a => if a ≠ m.2 ∧ Clear (w.drop (m.1 + 1)) a m.2 then prc rs m.1 a m.2 else none
theorem mvP_good {rs : Rows} {w : List Nat} {m : Mv} {a : Nat} {x : Int} (g : GoodMv rs w m a x) : mvP rs w m = some x := by
  unfold mvP
  rw [g.here]
  show (if a ≠ m.2 ∧ Clear (w.drop (m.1 + 1)) a m.2 then prc rs m.1 a m.2 else none) = _
  rw [if_pos ⟨g.ne, g.top⟩]
  exact g.pr
theorem mvP_some {rs : Rows} {w : List Nat} {m : Mv} {x : Int} (hp : isPl m.2 = true) (h : mvP rs w m = some x) : ∃ a, GoodMv rs w m a x := by
  unfold mvP at h
  split at h
  · cases h
  · rename_i a ha
    split at h
    · rename_i q
      exact ⟨a, ha, hp, q.1, q.2, h⟩
    · cases h
def mvs1 (rs : Rows) (w : List Nat) (k : Nat) : List (Mv × Int) := [97, 98, 99].filterMap fun c => (mvP rs w (k, c)).map fun x => ((k, c), x)
def alw (rs : Rows) (w : List Nat) : List (Mv × Int) := (List.range w.length).flatMap (mvs1 rs w)
theorem isPl_mem {c : Nat} : c ∈ [97, 98, 99] ↔ isPl c = true := by
  constructor
  · intro h
    rcases List.mem_cons.mp h with rfl | h
    · rfl
    · rcases List.mem_cons.mp h with rfl | h
      · rfl
      · rcases List.mem_cons.mp h with rfl | h
        · rfl
        · cases h
  · intro h
    rcases isPl_by h with rfl | rfl | rfl <;> simp
theorem mem_mvs1 {rs : Rows} {w : List Nat} {k : Nat} {p : Mv × Int} : p ∈ mvs1 rs w k ↔ p.1.1 = k ∧ isPl p.1.2 = true ∧ mvP rs w p.1 = some p.2 := by
  unfold mvs1
  rw [List.mem_filterMap]
  constructor
  · rintro ⟨c, hc, h⟩
    obtain ⟨x, hx, rfl⟩ := Option.map_eq_some_iff.mp h
    exact ⟨rfl, isPl_mem.mp hc, hx⟩
  · rintro ⟨rfl, hc, h⟩
    exact ⟨p.1.2, isPl_mem.mpr hc, by rw [show (p.1.1, p.1.2) = p.1 from rfl, h]; rfl⟩
theorem mvP_lt {rs : Rows} {w : List Nat} {m : Mv} {x : Int} (h : mvP rs w m = some x) : m.1 < w.length := by
  unfold mvP at h
  split at h
  · cases h
  · rename_i a ha
    exact (List.getElem?_eq_some_iff.mp ha).1
theorem mem_alw {rs : Rows} {w : List Nat} {p : Mv × Int} : p ∈ alw rs w ↔ isPl p.1.2 = true ∧ mvP rs w p.1 = some p.2 := by
  unfold alw
  rw [List.mem_flatMap]
  constructor
  · rintro ⟨k, hk, h⟩
    exact (mem_mvs1.mp h).2
  · rintro ⟨h1, h2⟩
    exact ⟨p.1.1, List.mem_range.mpr (mvP_lt h2), mem_mvs1.mpr ⟨rfl, h1, h2⟩⟩
theorem alw_goods {rs : Rows} {w : List Nat} : Goods rs w (alw rs w) := fun p hp => mvP_some (mem_alw.mp hp).1 (mem_alw.mp hp).2
theorem mvs1_len (rs : Rows) (w : List Nat) (k : Nat) : (mvs1 rs w k).length ≤ 3 := List.length_filterMap_le _ _
theorem flatMap_len {α β : Type} (f : α → List β) (m : Nat) (h : ∀ a, (f a).length ≤ m) : ∀ l : List α, (l.flatMap f).length ≤ m * l.length
  | [] => by simp
  | a :: l => by
    rw [List.flatMap_cons, List.length_append, List.length_cons, Nat.mul_succ]
    have := flatMap_len f m h l
    have := h a
    omega
theorem alw_len180 {rs : Rows} {w : List Nat} (h : w.length ≤ 60) : (alw rs w).length ≤ 180 := by
  have := flatMap_len (mvs1 rs w) 3 (mvs1_len rs w) (List.range w.length)
  rw [List.length_range] at this
  unfold alw
  omega
/-! ### at most three -/
/-- what the crates but the smallest ones on p may do: only the last one that stands elsewhere -/
def second (rs : Rows) (p : Nat) : List Nat → List (Mv × Int)
  | [] => []
  | a :: v => if a = p then second rs p v else ((prc rs v.length a (294 - a - p)).map fun x => ((v.length, 294 - a - p), x)).toList
theorem third_pl {a p : Nat} (ha : isPl a = true) (hp : isPl p = true) (h : a ≠ p) : isPl (294 - a - p) = true ∧ 294 - a - p ≠ a ∧ 294 - a - p ≠ p := by
  rcases isPl_by ha with rfl | rfl | rfl <;> rcases isPl_by hp with rfl | rfl | rfl <;> first | (exact absurd rfl h) | decide
/-- the one place that is left -/
theorem one_place {α : Type} {f : Nat → Option α} {t : Nat} (ht : isPl t = true) (h : ∀ c, isPl c = true → c ≠ t → f c = none) : [97, 98, 99].filterMap f = (f t).toList := by
  have h97 := h 97 rfl
  have h98 := h 98 rfl
  have h99 := h 99 rfl
  rcases isPl_by ht with rfl | rfl | rfl
  · rw [List.filterMap_cons, List.filterMap_cons, List.filterMap_cons, h98 (by omega), h99 (by omega)]
    cases f 97 <;> rfl
  · rw [List.filterMap_cons, List.filterMap_cons, List.filterMap_cons, h97 (by omega), h99 (by omega)]
    cases f 98 <;> rfl
  · rw [List.filterMap_cons, List.filterMap_cons, List.filterMap_cons, h97 (by omega), h98 (by omega)]
    cases f 99 <;> rfl
theorem no_place {α : Type} {f : Nat → Option α} (h : ∀ c, isPl c = true → f c = none) : [97, 98, 99].filterMap f = [] := by
  rw [List.filterMap_cons, List.filterMap_cons, List.filterMap_cons, h 97 rfl, h 98 rfl, h 99 rfl]
  rfl
theorem mvs1_nil {rs : Rows} {w : List Nat} {k a : Nat} (ha : w[k]? = some a) (h : ∀ c, isPl c = true → c ≠ a → ∃ x ∈ w.drop (k + 1), x = a ∨ x = c) : mvs1 rs w k = [] := by
  refine no_place fun c hc => ?_
  have : mvP rs w (k, c) = none := by
    unfold mvP
    rw [ha]
    show (if a ≠ c ∧ Clear (w.drop (k + 1)) a c then prc rs k a c else none) = none
    refine if_neg fun z => ?_
    obtain ⟨x, hx, e⟩ := h c hc (Ne.symm z.1)
    rcases e with e | e
    · exact (z.2 x hx).1 e
    · exact (z.2 x hx).2 e
  rw [this]
  rfl
theorem second_is {rs : Rows} {p : Nat} (hp : isPl p = true) : ∀ (v : List Nat) (m : Nat), 1 ≤ m → okWord v = true → (List.range v.length).flatMap (mvs1 rs (v.reverse ++ List.replicate m p)) = second rs p v
  | [], m, _, _ => rfl
  | a :: v, m, hm, ho => by
    have ha : isPl a = true ∧ okWord v = true := by simpa [okWord] using ho
    have hw : (a :: v).reverse ++ List.replicate m p = v.reverse ++ a :: List.replicate m p := by simp
    have at_ : ((a :: v).reverse ++ List.replicate m p)[v.length]? = some a := by rw [hw]; simp
    have dr : ((a :: v).reverse ++ List.replicate m p).drop (v.length + 1) = List.replicate m p := by
      rw [hw, show v.reverse ++ a :: List.replicate m p = (v.reverse ++ [a]) ++ List.replicate m p by simp]
      exact List.drop_left' (by simp)
    have pm : p ∈ List.replicate m p := List.mem_replicate.mpr ⟨by omega, rfl⟩
    rw [List.length_cons, List.range_succ, List.flatMap_append, List.flatMap_singleton]
    unfold second
    by_cases q : a = p
    · subst q
      rw [if_pos rfl]
      have e : (a :: v).reverse ++ List.replicate m a = v.reverse ++ List.replicate (m + 1) a := by simp [List.replicate_succ]
      rw [mvs1_nil at_ fun c _ _ => ⟨a, by rw [dr]; exact pm, .inl rfl⟩, List.append_nil, e]
      exact second_is hp v (m + 1) (by omega) ha.2
    · rw [if_neg q]
      obtain ⟨t1, t2, t3⟩ := third_pl ha.1 hp q
      have rest : (List.range v.length).flatMap (mvs1 rs ((a :: v).reverse ++ List.replicate m p)) = [] := by
        rw [List.flatMap_eq_nil_iff]
        intro k hk
        have hk := List.mem_range.mp hk
        obtain ⟨b, hb⟩ : ∃ b, ((a :: v).reverse ++ List.replicate m p)[k]? = some b := ⟨_, List.getElem?_eq_getElem (by simp; omega)⟩
        have d2 : a ∈ ((a :: v).reverse ++ List.replicate m p).drop (k + 1) ∧ p ∈ ((a :: v).reverse ++ List.replicate m p).drop (k + 1) := by
          have sub : ∀ x, x ∈ a :: List.replicate m p → x ∈ ((a :: v).reverse ++ List.replicate m p).drop (k + 1) := by
            intro x hx
            have e : a :: List.replicate m p = ((a :: v).reverse ++ List.replicate m p).drop v.length := by
              rw [hw, List.drop_append_of_le_length (by simp)]
              simp
            rw [e] at hx
            have e2 : v.length = (k + 1) + (v.length - (k + 1)) := by omega
            rw [e2, ← List.drop_drop] at hx
            exact List.mem_of_mem_drop hx
          exact ⟨sub a List.mem_cons_self, sub p (List.mem_cons_of_mem _ pm)⟩
        refine mvs1_nil hb fun c hc hcb => ?_
        by_cases z : b = a
        · exact ⟨a, d2.1, .inl z.symm⟩
        · by_cases z2 : b = p
          · exact ⟨p, d2.2, .inl z2.symm⟩
          · by_cases z3 : c = a
            · exact ⟨a, d2.1, .inr z3.symm⟩
            · by_cases z4 : c = p
              · exact ⟨p, d2.2, .inr z4.symm⟩
              · exfalso
                have hbw : isPl b = true := by
                  have hm' := List.mem_of_getElem? hb
                  rcases List.mem_append.mp hm' with y | y
                  · rcases List.mem_cons.mp (List.mem_reverse.mp y) with y | y
                    · rw [y]; exact ha.1
                    · exact List.all_eq_true.mp ha.2 b y
                  · rw [(List.mem_replicate.mp y).2]; exact hp
                have e1 := third_ok hbw ha.1 hp q z z2
                have e2 := third_ok hc ha.1 hp q z3 z4
                exact hcb (by rw [e1, e2])
      rw [rest, List.nil_append]
      unfold mvs1
      rw [one_place t1 fun c hc hct => ?_]
      · unfold mvP
        rw [at_]
        show ((if a ≠ 294 - a - p ∧ Clear (List.drop (v.length + 1) ((a :: v).reverse ++ List.replicate m p)) a (294 - a - p) then prc rs v.length a (294 - a - p) else none).map _).toList = _
        rw [dr, if_pos ⟨Ne.symm t2, fun x hx => by rw [(List.mem_replicate.mp hx).2]; exact ⟨Ne.symm q, Ne.symm t3⟩⟩]
      · unfold mvP
        rw [at_]
        show (if a ≠ c ∧ Clear (List.drop (v.length + 1) ((a :: v).reverse ++ List.replicate m p)) a c then prc rs v.length a c else none).map _ = none
        rw [dr, if_neg fun z => hct ?_]
        · rfl
        · exact third_ok hc ha.1 hp q (Ne.symm z.1) (Ne.symm (z.2 p pm).2)
theorem second_len {rs : Rows} {p : Nat} : ∀ v : List Nat, (second rs p v).length ≤ 1
  | [] => by simp [second]
  | a :: v => by
    unfold second
    split
    · exact second_len v
    · cases prc rs v.length a (294 - a - p) <;> simp
/-- the moves of the smallest crate -/
theorem alw_snoc {rs : Rows} {v : List Nat} {p : Nat} (hp : isPl p = true) (ho : okWord v = true) : alw rs (v.reverse ++ [p]) = second rs p v ++ mvs1 rs (v.reverse ++ [p]) v.length := by
  unfold alw
  rw [show (v.reverse ++ [p]).length = v.length + 1 by simp, List.range_succ, List.flatMap_append, List.flatMap_singleton]
  have := second_is (rs := rs) hp v 1 (by omega) ho
  rw [show List.replicate 1 p = [p] from rfl] at this
  rw [this]
theorem last_mvs {rs : Rows} {v : List Nat} {p : Nat} (hp : isPl p = true) : mvs1 rs (v.reverse ++ [p]) v.length = [97, 98, 99].filterMap fun c => if p ≠ c then (prc rs v.length p c).map fun x => ((v.length, c), x) else none := by
  unfold mvs1
  congr 1
  funext c
  unfold mvP
  have at_ : (v.reverse ++ [p])[v.length]? = some p := by simp
  have dr : (v.reverse ++ [p]).drop (v.length + 1) = [] := by simp
  rw [at_]
  show (if p ≠ c ∧ Clear (List.drop (v.length + 1) (v.reverse ++ [p])) p c then prc rs v.length p c else none).map _ = _
  rw [dr]
  by_cases q : p ≠ c
  · rw [if_pos ⟨q, fun x hx => by cases hx⟩, if_pos q]
  · rw [if_neg fun z => q z.1, if_neg q]
    rfl
theorem last_len {rs : Rows} {v : List Nat} {p : Nat} (hp : isPl p = true) : (mvs1 rs (v.reverse ++ [p]) v.length).length ≤ 2 := by
  rw [last_mvs hp, List.filterMap_cons, List.filterMap_cons, List.filterMap_cons]
  rcases isPl_by hp with rfl | rfl | rfl
  · cases prc rs v.length 97 98 <;> cases prc rs v.length 97 99 <;> simp
  · cases prc rs v.length 98 97 <;> cases prc rs v.length 98 99 <;> simp
  · cases prc rs v.length 99 97 <;> cases prc rs v.length 99 98 <;> simp
theorem snoc_of {w : List Nat} (h : w ≠ []) : ∃ (v : List Nat) (p : Nat), w = v.reverse ++ [p] := by
  refine ⟨w.dropLast.reverse, w.getLast h, ?_⟩
  rw [List.reverse_reverse, List.dropLast_concat_getLast]
theorem snoc_ok {v : List Nat} {p : Nat} (h : okWord (v.reverse ++ [p]) = true) : okWord v = true ∧ isPl p = true := by
  unfold okWord at *
  rw [List.all_append] at h
  simp only [Bool.and_eq_true, List.all_reverse] at h
  exact ⟨h.1, by simpa using h.2⟩
theorem alw_len3 {rs : Rows} {w : List Nat} (ho : okWord w = true) : (alw rs w).length ≤ 3 := by
  by_cases h : w = []
  · subst h
    simp [alw]
  · obtain ⟨v, p, rfl⟩ := snoc_of h
    obtain ⟨h1, h2⟩ := snoc_ok ho
    rw [alw_snoc h2 h1, List.length_append]
    have := second_len (rs := rs) (p := p) v
    have := last_len (rs := rs) (v := v) h2
    omega
/-! ### with nothing barred -/
def freeR (k : Nat) : Rows := List.replicate k (List.replicate 6 (some 1))
theorem prc_free {n k a b : Nat} (hk : k < n) (ha : isPl a = true) (hb : isPl b = true) (hn : a ≠ b) : prc (freeR n) k a b = some 1 := by
  unfold prc freeR
  rw [List.getElem?_replicate, if_pos hk, Option.getD_some, List.getElem?_replicate, if_pos (wayI_lt ha hb hn)]
  rfl
theorem second_free {n p : Nat} (hp : isPl p = true) : ∀ v : List Nat, v.length ≤ n → okWord v = true → (second (freeR n) p v).length = if ∃ a ∈ v, a ≠ p then 1 else 0
  | [], _, _ => by simp [second]
  | a :: v, hl, ho => by
    have ha : isPl a = true ∧ okWord v = true := by simpa [okWord] using ho
    rw [List.length_cons] at hl
    unfold second
    by_cases q : a = p
    · subst q
      rw [if_pos rfl, second_free hp v (by omega) ha.2]
      simp
    · obtain ⟨t1, t2, t3⟩ := third_pl ha.1 hp q
      rw [if_neg q, prc_free (by omega) ha.1 t1 (Ne.symm t2), if_pos ⟨a, by simp, q⟩]
      rfl
theorem last_free {n p : Nat} {v : List Nat} (hv : v.length < n) (hp : isPl p = true) : (mvs1 (freeR n) (v.reverse ++ [p]) v.length).length = 2 := by
  rw [last_mvs hp, List.filterMap_cons, List.filterMap_cons, List.filterMap_cons]
  rcases isPl_by hp with rfl | rfl | rfl
  · rw [prc_free (a := 97) (b := 98) hv rfl rfl (by decide), prc_free (a := 97) (b := 99) hv rfl rfl (by decide)]; simp
  · rw [prc_free (a := 98) (b := 97) hv rfl rfl (by decide), prc_free (a := 98) (b := 99) hv rfl rfl (by decide)]; simp
  · rw [prc_free (a := 99) (b := 97) hv rfl rfl (by decide), prc_free (a := 99) (b := 98) hv rfl rfl (by decide)]; simp
theorem diffN_pos : ∀ {l : List (List Nat)}, l ≠ [] → 1 ≤ diffN l
  | [x], _ => by simp [diffN]
  | x :: y :: l, _ => by
    have := diffN_pos (l := y :: l) (by simp)
    show 1 ≤ (if (y :: l).contains x then 0 else 1) + diffN (y :: l)
    omega
theorem diffN_two : ∀ {l : List (List Nat)} {x y : List Nat}, x ∈ l → y ∈ l → x ≠ y → 2 ≤ diffN l
  | z :: l, x, y, hx, hy, hn => by
    show 2 ≤ (if l.contains z then 0 else 1) + diffN l
    by_cases q : z ∈ l
    · have hx' : x ∈ l := (List.mem_cons.mp hx).elim (fun e => e ▸ q) id
      have hy' : y ∈ l := (List.mem_cons.mp hy).elim (fun e => e ▸ q) id
      have := diffN_two hx' hy' hn
      omega
    · have hc : l.contains z = false := by simpa using q
      have : l ≠ [] := by
        intro e
        subst e
        rw [List.mem_singleton] at hx hy
        exact hn (by rw [hx, hy])
      have := diffN_pos this
      rw [hc]
      simp
      omega
theorem diffN_one : ∀ {l : List (List Nat)} {p : List Nat}, (∀ x ∈ l, x = p) → diffN l ≤ 1
  | [], _, _ => by simp [diffN]
  | [x], _, _ => by simp [diffN]
  | x :: y :: l, p, h => by
    have i := diffN_one (l := y :: l) (p := p) fun z hz => h z (by simp [hz])
    have e : (y :: l).contains x = true := by
      rw [h x (by simp), h y (by simp)]
      simp
    show (if (y :: l).contains x then 0 else 1) + diffN (y :: l) ≤ 1
    rw [e]
    simpa using i
theorem alw_free {w : List Nat} (ho : okWord w = true) (h : w ≠ []) : ((alw (freeR w.length) w).length : Int) = if (1 : Int) < (diffN (w.map fun c => [c]) : Nat) then 3 else 2 := by
  obtain ⟨v, p, rfl⟩ := snoc_of h
  obtain ⟨h1, h2⟩ := snoc_ok ho
  have hl : (v.reverse ++ [p]).length = v.length + 1 := by simp
  rw [alw_snoc h2 h1, List.length_append, hl, second_free h2 v (by omega) h1, last_free (by omega) h2]
  by_cases q : ∃ a ∈ v, a ≠ p
  · rw [if_pos q]
    obtain ⟨a, ha, hn⟩ := q
    have := diffN_two (l := (v.reverse ++ [p]).map fun c => [c]) (x := [a]) (y := [p]) (List.mem_map.mpr ⟨a, by simp [ha], rfl⟩) (List.mem_map.mpr ⟨p, by simp, rfl⟩) (by simpa using hn)
    rw [if_pos (by omega)]
    rfl
  · rw [if_neg q]
    have := diffN_one (l := (v.reverse ++ [p]).map fun c => [c]) (p := [p]) fun x hx => by
      obtain ⟨a, ha, rfl⟩ := List.mem_map.mp hx
      rcases List.mem_append.mp ha with y | y
      · by_cases z : a = p
        · rw [z]
        · exact absurd ⟨a, List.mem_reverse.mp y, z⟩ q
      · rw [List.mem_singleton.mp y]
    rw [if_neg (by omega)]
    rfl
/-! ### the move back -/
theorem mvP_back {rs : Rows} {w : List Nat} {m : Mv} {a : Nat} {x : Int} (g : GoodMv rs w m a x) : mvP rs (stp w m) (m.1, a) = prc rs m.1 m.2 a := by
  unfold mvP stp
  rw [List.getElem?_set_self g.lt]
  show (if m.2 ≠ a ∧ Clear ((w.set m.1 m.2).drop (m.1 + 1)) m.2 a then prc rs m.1 m.2 a else none) = _
  rw [List.drop_set_of_lt (by omega), if_pos ⟨Ne.symm g.ne, fun c hc => ⟨(g.top c hc).2, (g.top c hc).1⟩⟩]
theorem range_one {β : Type} (f : Nat → List β) (k : Nat) (h : ∀ j, j ≠ k → f j = []) : ∀ n, (List.range n).flatMap f = if k < n then f k else []
  | 0 => by simp
  | n + 1 => by
    rw [List.range_succ, List.flatMap_append, range_one f k h n, List.flatMap_singleton]
    by_cases q : k = n
    · subst q
      simp
    · rw [h n (Ne.symm q), List.append_nil]
      by_cases q2 : k < n
      · rw [if_pos q2, if_pos (by omega)]
      · rw [if_neg q2, if_neg (by omega)]
/-- of the allowed moves those that are m -/
theorem alw_only {rs : Rows} {w : List Nat} {m : Mv} (hm : isPl m.2 = true) : (alw rs w).filter (fun p => decide (p.1 = m)) = ((mvP rs w m).map fun x => (m, x)).toList := by
  unfold alw
  rw [List.filter_flatMap]
  rw [range_one _ m.1 fun j hj => ?_]
  · have e : (mvs1 rs w m.1).filter (fun p => decide (p.1 = m)) = ((mvP rs w m).map fun x => (m, x)).toList := by
      unfold mvs1
      rw [List.filter_filterMap]
      rw [one_place hm fun c hc hct => ?_]
      · show (Option.filter _ ((mvP rs w m).map fun x => (m, x))).toList = _
        cases mvP rs w m <;> simp
      · cases mvP rs w (m.1, c) with
        | none => rfl
        | some x =>
          show Option.filter _ (some ((m.1, c), x)) = none
          simp
          intro z
          exact hct (by rw [← z])
    by_cases q : m.1 < w.length
    · rw [if_pos q, e]
    · rw [if_neg q]
      cases z : mvP rs w m with
      | none => rfl
      | some x => exact absurd (mvP_lt z) q
  · rw [List.filter_eq_nil_iff]
    intro p hp
    have := (mem_mvs1.mp hp).1
    simp
    intro z
    rw [z] at this
    exact hj this.symm
/-! ### the tops, in order -/
theorem TopsAt.below {w : List Nat} {l : Tops} (h : TopsAt w w.length l) {k a c : Nat} (hk : w[k]? = some a) (hc : c ≠ a) (ht : ∀ x ∈ w.drop (k + 1), x ≠ c) : topI c l < (k : Int) := by
  unfold topI
  cases f : l.find? (·.1 == c) with
  | none => simp; omega
  | some q =>
    have m2 := List.mem_of_find?_eq_some f
    have e2 : q.1 = c := by simpa using List.find?_some f
    obtain ⟨h1, h2, h3⟩ := h.vals q m2
    show (q.2 : Int) < k
    rcases Nat.lt_trichotomy q.2 k with z | z | z
    · omega
    · rw [z, hk] at h2
      exact absurd (by injection h2 with h2; rw [← e2, ← h2]) hc
    · exfalso
      refine ht c ?_ rfl
      rw [← e2]
      refine List.mem_iff_getElem?.mpr ⟨q.2 - (k + 1), ?_⟩
      rw [List.getElem?_drop, show k + 1 + (q.2 - (k + 1)) = q.2 by omega]
      exact h2
def None1 (l : List Nat) (a : Nat) : Prop := ∀ x ∈ l, x ≠ a
instance {l : List Nat} {a : Nat} : Decidable (None1 l a) := List.decidableBAll _ _
def isTop (w : List Nat) (k : Nat) : Bool := match w[k]? with
  | some a => decide (None1 (w.drop (k + 1)) a)
  | none => false
theorem not_top {rs : Rows} {w : List Nat} {k : Nat} (h : isTop w k = false) : mvs1 rs w k = [] := by
  unfold isTop at h
  cases q : w[k]? with
  | none =>
    refine no_place fun c hc => ?_
    unfold mvP
    rw [show w[(k, c).1]? = none from q]
    rfl
  | some a =>
    rw [q] at h
    have h := of_decide_eq_false h
    refine mvs1_nil q fun c _ _ => ?_
    apply Classical.byContradiction
    intro z
    exact h fun x hx e => z ⟨x, hx, .inl e⟩
theorem flatMap_drop {α β : Type} (f : α → List β) (p : α → Bool) (h : ∀ a, p a = false → f a = []) : ∀ l : List α, l.flatMap f = (l.filter p).flatMap f
  | [] => rfl
  | a :: l => by
    rw [List.flatMap_cons, flatMap_drop f p h l]
    cases q : p a with
    | true => rw [List.filter_cons_of_pos q, List.flatMap_cons]
    | false => rw [List.filter_cons_of_neg (by simp [q]), h a q, List.nil_append]
theorem sorted_uniq : ∀ {l k : List Int}, l.Pairwise (· < ·) → k.Pairwise (· < ·) → (∀ x, x ∈ l ↔ x ∈ k) → l = k
  | [], [], _, _, _ => rfl
  | [], b :: k, _, _, h => absurd ((h b).mpr (by simp)) (by simp)
  | a :: l, [], _, _, h => absurd ((h a).mp (by simp)) (by simp)
  | a :: l, b :: k, hl, hk, h => by
    rw [List.pairwise_cons] at hl hk
    have e : a = b := by
      rcases List.mem_cons.mp ((h a).mp (by simp)) with z | z
      · exact z
      · rcases List.mem_cons.mp ((h b).mpr (by simp)) with y | y
        · exact y.symm
        · have := hl.1 b y
          have := hk.1 a z
          omega
    subst e
    refine congrArg _ (sorted_uniq hl.2 hk.2 fun x => ⟨fun hx => ?_, fun hx => ?_⟩)
    · rcases List.mem_cons.mp ((h x).mp (by simp [hx])) with z | z
      · have := hl.1 x hx
        omega
      · exact z
    · rcases List.mem_cons.mp ((h x).mpr (by simp [hx])) with z | z
      · have := hk.1 x hx
        omega
      · exact z
theorem insertI_mem {i x : Int} : ∀ {l : List Int}, x = i ∨ x ∈ l → x ∈ insertI i l
  | [], h => by simpa [insertI] using h
  | j :: l, h => by
    unfold insertI
    split
    · simpa using h
    · rcases h with z | z
      · exact List.mem_cons_of_mem _ (insertI_mem (.inl z))
      · rcases List.mem_cons.mp z with y | y
        · simp [y]
        · exact List.mem_cons_of_mem _ (insertI_mem (.inr y))
theorem sortI_mem {x : Int} : ∀ {l : List Int}, x ∈ l → x ∈ sortI l
  | j :: l, h => by
    show x ∈ insertI j (sortI l)
    rcases List.mem_cons.mp h with z | z
    · exact insertI_mem (.inl z)
    · exact insertI_mem (.inr (sortI_mem z))
theorem insertI_srt {i : Int} : ∀ {l : List Int}, l.Pairwise (· < ·) → i ∉ l → (insertI i l).Pairwise (· < ·)
  | [], _, _ => by simp [insertI]
  | j :: l, h, hn => by
    rw [List.pairwise_cons] at h
    unfold insertI
    split
    · rename_i q
      have : i ≠ j := fun z => hn (by simp [z])
      rw [List.pairwise_cons, List.pairwise_cons]
      refine ⟨fun x hx => ?_, h⟩
      rcases List.mem_cons.mp hx with z | z
      · omega
      · have := h.1 x z
        omega
    · rename_i q
      rw [List.pairwise_cons]
      refine ⟨fun x hx => ?_, insertI_srt h.2 fun z => hn (by simp [z])⟩
      rcases mem_insertI hx with z | z
      · omega
      · exact h.1 x z
theorem sortI_srt : ∀ {l : List Int}, l.Nodup → (sortI l).Pairwise (· < ·)
  | [], _ => by simp [sortI]
  | j :: l, h => by
    rw [List.nodup_cons] at h
    exact insertI_srt (sortI_srt h.2) fun z => h.1 (mem_sortI z)
theorem putT_keys {c k : Nat} {l : Tops} (h : (l.map Prod.fst).Nodup) : ((putT c k l).map Prod.fst).Nodup := by
  unfold putT
  split
  · have e : (l.map fun p => if p.1 = c then (p.1, k) else p).map Prod.fst = l.map Prod.fst := by
      rw [List.map_map]
      refine List.map_congr_left fun p _ => ?_
      show (if p.1 = c then (p.1, k) else p).1 = p.1
      split <;> rfl
    rw [e]
    exact h
  · rename_i q
    rw [List.map_append, List.nodup_append]
    refine ⟨h, by simp, fun x hx y hy z => ?_⟩
    obtain ⟨p, hp, e⟩ := List.mem_map.mp hx
    have hy : y = c := by simpa using hy
    exact q (List.any_eq_true.mpr ⟨p, hp, by simp [e, z, hy]⟩)
theorem tops_sorted {w : List Nat} {l : Tops} (h : TopsAt w w.length l) (hk : (l.map Prod.fst).Nodup) : sortI (l.map fun p => (p.2 : Int)) = ((List.range w.length).filter (isTop w)).map fun k : Nat => (k : Int) := by
  have inj : ∀ p ∈ l, ∀ q ∈ l, p.2 = q.2 → p.1 = q.1 := fun p hp q hq e => by
    have h1 := (h.vals p hp).2.1
    have h2 := (h.vals q hq).2.1
    rw [e, h2] at h1
    injection h1 with h1
    exact h1.symm
  have nd : (l.map fun p => (p.2 : Int)).Nodup := by
    clear h
    induction l with
    | nil => simp
    | cons p l ih =>
      rw [List.map_cons, List.nodup_cons] at hk ⊢
      refine ⟨fun z => ?_, ih hk.2 fun a ha b hb => inj a (by simp [ha]) b (by simp [hb])⟩
      obtain ⟨q, hq, e⟩ := List.mem_map.mp z
      exact hk.1 (List.mem_map.mpr ⟨q, hq, inj q (by simp [hq]) p (by simp) (by omega)⟩)
  refine sorted_uniq (sortI_srt nd) ?_ fun x => ⟨fun hx => ?_, fun hx => ?_⟩
  · rw [List.pairwise_map]
    refine List.Pairwise.imp (R := (· < ·)) (fun {a b} z => by omega) (List.Pairwise.filter _ List.pairwise_lt_range)
  · obtain ⟨p, hp, rfl⟩ := List.mem_map.mp (mem_sortI hx)
    obtain ⟨h1, h2, h3⟩ := h.vals p hp
    refine List.mem_map.mpr ⟨p.2, List.mem_filter.mpr ⟨List.mem_range.mpr h1, ?_⟩, rfl⟩
    unfold isTop
    rw [h2]
    refine decide_eq_true fun y hy e => ?_
    obtain ⟨i, hi⟩ := List.mem_iff_getElem?.mp hy
    rw [List.getElem?_drop] at hi
    exact h3 _ (by omega) (List.getElem?_eq_some_iff.mp hi).1 (by rw [hi, e])
  · obtain ⟨k, hk', rfl⟩ := List.mem_map.mp hx
    obtain ⟨h1, h2⟩ := List.mem_filter.mp hk'
    have h1 := List.mem_range.mp h1
    unfold isTop at h2
    have e : w[k]? = some w[k] := List.getElem?_eq_getElem h1
    rw [e] at h2
    have h2 := of_decide_eq_true h2
    obtain ⟨p, hp, e2⟩ := h.keys k h1 _ e
    obtain ⟨q1, q2, q3⟩ := h.vals p hp
    have : p.2 = k := by
      rcases Nat.lt_trichotomy p.2 k with z | z | z
      · exact absurd (by rw [e, e2]) (q3 k z h1)
      · exact z
      · exfalso
        refine h2 w[k] ?_ rfl
        refine List.mem_iff_getElem?.mpr ⟨p.2 - (k + 1), ?_⟩
        rw [List.getElem?_drop, show k + 1 + (p.2 - (k + 1)) = p.2 by omega, q2, e2]
    exact sortI_mem (List.mem_map.mpr ⟨p, hp, by rw [this]⟩)
theorem alw_tops (rs : Rows) (w : List Nat) : alw rs w = ((List.range w.length).filter (isTop w)).flatMap (mvs1 rs w) := flatMap_drop _ _ (fun _ h => not_top h) _
/-- what a turn of the law's own walk over the places adds -/
theorem top_step {rs : Rows} {w : List Nat} {l : Tops} (h : TopsAt w w.length l) {k a c : Nat} (hk : w[k]? = some a) (ht : isTop w k = true) : mvP rs w (k, c) = if c ≠ a ∧ topI c l < (k : Int) then prc rs k a c else none := by
  unfold isTop at ht
  rw [hk] at ht
  have ht := of_decide_eq_true ht
  unfold mvP
  rw [show w[(k, c).1]? = some a from hk]
  show (if a ≠ c ∧ Clear (w.drop (k + 1)) a c then prc rs k a c else none) = _
  by_cases q : c = a
  · rw [if_neg fun z => z.1 q.symm, if_neg fun z => z.1 q]
  · by_cases q2 : topI c l < (k : Int)
    · obtain ⟨p, hp, e2⟩ := h.keys k (List.getElem?_eq_some_iff.mp hk).1 _ hk
      have pk : p.2 = k := by
        obtain ⟨q1, q2, q3⟩ := h.vals p hp
        rcases Nat.lt_trichotomy p.2 k with z | z | z
        · exact absurd (by rw [hk, e2]) (q3 k z (List.getElem?_eq_some_iff.mp hk).1)
        · exact z
        · exfalso
          refine ht a ?_ rfl
          refine List.mem_iff_getElem?.mpr ⟨p.2 - (k + 1), ?_⟩
          rw [List.getElem?_drop, show k + 1 + (p.2 - (k + 1)) = p.2 by omega, q2, e2]
      have cl := h.clear hp (c := c) (by rw [pk]; exact q2) (by rw [e2]; exact q)
      rw [pk, e2] at cl
      rw [if_pos ⟨Ne.symm q, cl⟩, if_pos ⟨q, q2⟩]
    · rw [if_neg fun z => q2 (h.below hk q fun x hx => (z.2 x hx).2), if_neg fun z => q2 z.2]
/-- all pairs of a crate and a place -/
def prs (n : Nat) : List Mv := (List.range n).flatMap fun k => [97, 98, 99].map fun c => (k, c)
theorem prs_mem {n : Nat} {m : Mv} (h : m ∈ prs n) : m.1 < n ∧ isPl m.2 = true := by
  obtain ⟨k, hk, h⟩ := List.mem_flatMap.mp h
  obtain ⟨c, hc, rfl⟩ := List.mem_map.mp h
  exact ⟨List.mem_range.mp hk, isPl_mem.mp hc⟩
theorem prs_len (n : Nat) : (prs n).length ≤ 3 * n := by
  have := flatMap_len (fun k : Nat => [97, 98, 99].map fun c => (k, c)) 3 (fun _ => by simp) (List.range n)
  rw [List.length_range] at this
  exact this
theorem prs_fm (rs : Rows) (w : List Nat) : (prs w.length).filterMap (fun m => (mvP rs w m).map fun _ => mvD m) = mvsD (alw rs w) := by
  unfold prs alw mvsD
  rw [List.filterMap_flatMap, List.map_flatMap]
  congr 1
  funext k
  unfold mvs1
  rw [List.filterMap_map, List.map_filterMap]
  congr 1
  funext c
  show (mvP rs w (k, c)).map _ = ((mvP rs w (k, c)).map _).map _
  cases mvP rs w (k, c) <;> rfl
theorem prs_map (n : Nat) : ((List.range n).flatMap fun k : Nat => [97, 98, 99].filterMap fun c : Nat => some (mvD (k, c))) = (prs n).map mvD := by
  unfold prs
  rw [List.map_flatMap]
  congr 1
theorem clear_rep {w : List Nat} {k a c : Nat} (ho : okWord w = true) (ha : isPl a = true) (hc : isPl c = true) (hn : a ≠ c) : Clear (w.drop (k + 1)) a c ↔ cut w (k + 1) w.length = List.replicate (w.length - (k + 1)) (294 - a - c) := by
  unfold cut
  rw [List.take_length, List.eq_replicate_iff]
  constructor
  · refine fun h => ⟨by simp, fun x hx => ?_⟩
    exact third_ok (List.all_eq_true.mp ho x (List.mem_of_mem_drop hx)) ha hc hn (h x hx).1 (h x hx).2
  · rintro ⟨_, h⟩ x hx
    obtain ⟨t1, t2, t3⟩ := third_pl ha hc hn
    rw [h x hx]
    exact ⟨t2, t3⟩
theorem isTop_at {w : List Nat} {k : Nat} (h : isTop w k = true) : ∃ a, w[k]? = some a := by
  unfold isTop at h
  split at h
  · rename_i a ha
    exact ⟨a, ha⟩
  · cases h
theorem rpD_mvs {l : List (Mv × Int)} (h : ∀ p ∈ l, p.1.1 < 1000000 ∧ isPl p.1.2 = true) (hl : l.length ≤ 1000) : ∃ t, rpD (.lst (mvsD l)) = some t := by
  have lg : ∀ x : Nat, x < 1000000 → ((x : Int).natAbs).log2 < 20 := fun x hx => by
    by_cases z : x = 0
    · rw [z]; decide
    · exact (Nat.log2_lt (by omega)).mpr (by omega)
  refine rpD_some (k := 2) ?_ (by omega) ?_
  · show (mvsD l).all (okR 1) = true
    unfold mvsD
    rw [List.all_map, List.all_eq_true]
    intro p hp
    show ([D.int (p.1.1 : Int), D.str [p.1.2]]).all (okR 0) = true
    simp only [List.all_cons, List.all_nil, Bool.and_true, Bool.and_eq_true]
    refine ⟨decide_eq_true ?_, by rcases isPl_by (h p hp).2 with e | e | e <;> rw [e] <;> simp [okR]⟩
    have := lg _ (h p hp).1
    show ((p.1.1 : Int).natAbs).log2 < 1920
    omega
  · show 2 + wtL (mvsD l) ≤ maxLen
    have key : ∀ l : List (Mv × Int), (∀ p ∈ l, p.1.1 < 1000000) → wtL (mvsD l) ≤ 60 * l.length := by
      intro l
      induction l with
      | nil => intro _; exact Nat.le_refl _
      | cons p l ih =>
        intro h
        have i := ih fun y hy => h y (by simp [hy])
        have hx := lg _ (h p (by simp))
        show 2 + (3 + (2 + ((p.1.1 : Int).natAbs.log2 + 4) + (2 + (10 * 1 + 2) + 0))) + wtL (mvsD l) ≤ _
        rw [List.length_cons]
        omega
    have := key l fun p hp => (h p hp).1
    unfold maxLen
    omega
theorem in_mvs {m : Mv} : ∀ {F : List (Mv × Int)}, anyO ((mvsD F).map (deqF · (mvD m))) = some (decide (∃ p ∈ F, p.1 = m))
  | [] => by simp [mvsD]
  | p :: F => by
    show anyO (deqF (mvD p.1) (mvD m) :: (mvsD F).map (deqF · (mvD m))) = _
    rw [deq_mv, anyOc, in_mvs]
    show some (decide (p.1 = m) || decide (∃ p ∈ F, p.1 = m)) = _
    rw [← Bool.decide_or]
    congr 1
    rw [decide_eq_decide]
    simp
theorem alw_in {rs : Rows} {w : List Nat} {m : Mv} (hp : isPl m.2 = true) : (∃ p ∈ alw rs w, p.1 = m) ↔ (mvP rs w m).isSome = true := by
  constructor
  · rintro ⟨p, h, rfl⟩
    rw [(mem_alw.mp h).2]
    rfl
  · intro h
    obtain ⟨x, hx⟩ := Option.isSome_iff_exists.mp h
    exact ⟨(m, x), mem_alw.mpr ⟨hp, hx⟩, rfl⟩
theorem filter_fm {α β : Type} (p : α → Bool) (f : α → β) : ∀ l : List α, l.filterMap (fun a => if p a = true then some (f a) else none) = (l.filter p).map f
  | [] => rfl
  | a :: l => by
    rw [List.filterMap_cons]
    cases q : p a with
    | true => rw [if_pos rfl, List.filter_cons_of_pos q, List.map_cons, filter_fm p f l]
    | false => rw [if_neg (by simp), List.filter_cons_of_neg (by simp [q]), filter_fm p f l]
theorem goodRow_free {n : Nat} : (freeR n).all goodRow = true := by
  unfold freeR
  rw [List.all_eq_true]
  intro r hr
  rw [(List.mem_replicate.mp hr).2]
  decide
@[simp] theorem cmp_ne_bb {b c : Bool} : cmpD .ne (.bl b) (.bl c) = some (!(b == c)) := (rfl)
@[simp] theorem cmp_eq_bb {b c : Bool} : cmpD .eq (.bl b) (.bl c) = some (b == c) := (rfl)
@[simp] theorem cmp_eq_mv {m k : Mv} : cmpD .eq (mvD m) (mvD k) = some (decide (m = k)) := by
  have h1 : cmpD .eq (mvD m) (mvD k) = deqN true 30 (mvD m) (mvD k) := rfl
  rw [h1]
  unfold mvD
  simp
  obtain ⟨a, b⟩ := m
  obtain ⟨c, d⟩ := k
  by_cases h1 : a = c <;> by_cases h2 : b = d <;> simp [h1, h2] <;> omega
@[simp] theorem cmp_ne_mv {m k : Mv} : cmpD .ne (mvD m) (mvD k) = some (!decide (m = k)) := by
  have : cmpD .ne (mvD m) (mvD k) = (cmpD .eq (mvD m) (mvD k)).map (!·) := rfl
  rw [this, cmp_eq_mv]
  rfl
end PD
/-! the program of law_k11_single_moves as a text of PD -/
namespace PD.k11
open PD
/-- 0: Yard.__len__ -/
def b_Yard___len__ : Fn := { np := 1, ns := 1, ini := none, body :=
 (.cons (.ret (.bi .len (.cons (.attr (.var 0) 8 0) .nil)))
 .nil) }
/-- 1: _law_box -/
def b__law_box : Fn := { np := 1, ns := 1, ini := none, body :=
 (.cons (.ret (.box (.lst (.cons (.bi .max2 (.cons (.lit (.int 0)) (.cons (.bin .sub (.var 0) (.bin .pow (.lit (.int 10)) (.lit (.int 18)))) .nil))) (.cons (.bin .mod (.bi .int (.cons (.var 0) .nil)) (.lit (.int 2147483629))) (.cons (.lit (.int 0)) .nil))))))
 .nil) }
/-- 2: _law_cell -/
def b__law_cell : Fn := { np := 2, ns := 2, ini := none, body :=
 (.cons (.ifS (.cmp .lt (.var 1) (.bi .len (.cons (.var 0) .nil)))
 (.cons (.ret (.sub (.var 0) (.var 1)))
 .nil)
 .nil)
 (.cons (.ret (.bin .add (.bin .add (.bin .mul (.lit (.int 32452843)) (.var 1)) (.lit (.int 7411))) (.bin .mod (.bi .sum (.cons (.slc (.var 0) (.lit .non) (.lit (.int 1))) .nil)) (.lit (.int 1000003)))))
 .nil)) }
/-- 3: _law_take -/
def b__law_take : Fn := { np := 2, ns := 4, ini := none, body :=
 (.cons (.ifS (.cmp .gt (.sub (.var 0) (.lit (.int 0))) (.lit (.int 0)))
 (.cons (.asg 3 (.bin .mod (.bi .int (.cons (.sub (.var 0) (.lit (.int 0))) .nil)) (.var 1)))
 (.cons (.setH 0 (.lit (.int 0)) (.bin .fdiv (.sub (.var 0) (.lit (.int 0))) (.var 1)))
 (.cons (.retV 3)
 .nil)))
 .nil)
 (.cons (.setH 0 (.lit (.int 2)) (.bin .add (.sub (.var 0) (.lit (.int 2))) (.lit (.int 1))))
 (.cons (.asg 2 (.bin .mod (.bin .pow (.bi .int (.cons (.bin .add (.bin .add (.sub (.var 0) (.lit (.int 1))) (.bin .mul (.lit (.int 32452843)) (.sub (.var 0) (.lit (.int 2))))) (.lit (.int 271))) .nil)) (.lit (.int 5))) (.lit (.int 2147483647))))
 (.cons (.asg 2 (.bin .mod (.bin .pow (.bi .int (.cons (.bin .add (.var 2) (.bin .mul (.lit (.int 72497)) (.sub (.var 0) (.lit (.int 2))))) .nil)) (.lit (.int 3))) (.lit (.int 2147483587))))
 (.cons (.ret (.bin .mod (.bi .int (.cons (.bin .fdiv (.var 2) (.lit (.int 16))) .nil)) (.var 1)))
 .nil))))) }
/-- 4: _law_size -/
def b__law_size : Fn := { np := 2, ns := 3, ini := none, body :=
 (.cons (.asg 2 (.bin .add (.lit (.int 1)) (.call 3 (.cons (.var 0) (.cons (.var 1) .nil)))))
 (.cons (.ret (.ifE (.andE (.cmp .eq (.var 2) (.lit (.int 1))) (.cmp .gt (.call 3 (.cons (.var 0) (.cons (.lit (.int 4)) .nil))) (.lit (.int 0)))) (.var 1) (.var 2)))
 .nil)) }
/-- 5: _law_plain -/
def b__law_plain : Fn := { np := 2, ns := 10, ini := none, body :=
 (.cons (.asg 2 (.sub (.lst (.cons (.lit (.int 0)) (.cons (.lit (.int 0)) (.cons (.lit (.int 2)) (.cons (.lit (.int 4)) (.cons (.lit (.int 7)) .nil)))))) (.call 3 (.cons (.var 0) (.cons (.lit (.int 5)) .nil)))))
 (.cons (.par [4, 5, 6] (.cons (.cmp .eq (.call 3 (.cons (.var 0) (.cons (.lit (.int 6)) .nil))) (.lit (.int 0))) (.cons (.cmp .eq (.call 3 (.cons (.var 0) (.cons (.lit (.int 4)) .nil))) (.lit (.int 0))) (.cons (.lst .nil) .nil))))
 (.cons (.forS (.nm 3) (.rng1 (.var 1))
 (.cons (.asg 7 (.lst .nil))
 (.cons (.forS (.nm 8) (.rng1 (.lit (.int 6)))
 (.cons (.asg 9 (.sub (.lst (.cons (.lit (.int 1)) (.cons (.lit (.int 1)) (.cons (.lit (.int 2)) (.cons (.lit (.int 3)) (.cons (.bin .add (.lit (.int 1)) (.call 3 (.cons (.var 0) (.cons (.lit (.int 20)) .nil)))) (.cons (.lit (.int 100)) .nil))))))) (.ifE (.var 5) (.lit (.int 0)) (.call 3 (.cons (.var 0) (.cons (.lit (.int 6)) .nil))))))
 (.cons (.asg 9 (.ifE (.andE (.var 4) (.notE (.var 5))) (.bin .add (.bin .mul (.var 9) (.bin .pow (.lit (.int 10)) (.lit (.int 27)))) (.call 3 (.cons (.var 0) (.cons (.lit (.int 9)) .nil)))) (.var 9)))
 (.cons (.app 7 (.ifE (.cmp .lt (.call 3 (.cons (.var 0) (.cons (.lit (.int 20)) .nil))) (.var 2)) (.lit .non) (.var 9)))
 .nil))))
 (.cons (.app 6 (.var 7))
 .nil))))
 (.cons (.retV 6)
 .nil)))) }
/-- 6: is_list -/
def b_is_list : Fn := { np := 1, ns := 1, ini := none, body :=
 (.cons (.ret (.isi (.var 0) [.list, .tuple]))
 .nil) }
/-- 7: is_integer -/
def b_is_integer : Fn := { np := 1, ns := 1, ini := none, body :=
 (.cons (.ret (.andE (.isi (.var 0) [.int]) (.notE (.isi (.var 0) [.bool]))))
 .nil) }
/-- 8: is_price -/
def b_is_price : Fn := { np := 1, ns := 1, ini := none, body :=
 (.cons (.ret (.andE (.call 7 (.cons (.var 0) .nil)) (.cmp .gt (.var 0) (.lit (.int 0)))))
 .nil) }
/-- 9: are_prices -/
def b_are_prices : Fn := { np := 1, ns := 2, ini := none, body :=
 (.cons (.ret (.andE (.call 6 (.cons (.var 0) .nil)) (.andE (.cmp .eq (.bi .len (.cons (.var 0) .nil)) (.bi .len (.cons (.glob 1) .nil))) (.bi .all (.cons (.lc (.orE (.cmp .is (.var 1) (.lit .non)) (.call 8 (.cons (.var 1) .nil))) (.nm 1) (.ex (.var 0)) (.lit (.bl true))) .nil)))))
 .nil) }
/-- 10: is_yard_list -/
def b_is_yard_list : Fn := { np := 1, ns := 2, ini := none, body :=
 (.cons (.ret (.andE (.call 6 (.cons (.var 0) .nil)) (.andE (.chain .le .le (.lit (.int 1)) (.bi .len (.cons (.var 0) .nil)) (.glob 2)) (.bi .all (.cons (.lc (.call 9 (.cons (.var 1) .nil)) (.nm 1) (.ex (.var 0)) (.lit (.bl true))) .nil)))))
 .nil) }
/-- 11: Yard.__init__ -/
def b_Yard___init__ : Fn := { np := 2, ns := 3, ini := (some 8), body :=
 (.cons (.ifS (.notE (.call 10 (.cons (.var 1) .nil)))
 (.cons .never
 .nil)
 .nil)
 (.cons (.fld 8 0 (.lc (.bi .list (.cons (.var 2) .nil)) (.nm 2) (.ex (.var 1)) (.lit (.bl true))))
 .nil)) }
/-- 12: _law_word -/
def b__law_word : Fn := { np := 2, ns := 3, ini := none, body :=
 (.cons (.ret (.meth .join (.lit (.str [])) (.cons (.lc (.sub (.lit (.str [97, 98, 99])) (.call 3 (.cons (.var 0) (.cons (.lit (.int 3)) .nil)))) (.nm 2) (.rng1 (.var 1)) (.lit (.bl true))) .nil)))
 .nil) }
/-- 13: _law_price -/
def b__law_price : Fn := { np := 4, ns := 4, ini := none, body :=
 (.cons (.ret (.sub (.sub (.var 0) (.var 1)) (.meth .index (.lst (.cons (.lit (.str [97, 98])) (.cons (.lit (.str [97, 99])) (.cons (.lit (.str [98, 97])) (.cons (.lit (.str [98, 99])) (.cons (.lit (.str [99, 97])) (.cons (.lit (.str [99, 98])) .nil))))))) (.cons (.bin .add (.var 2) (.var 3)) .nil))))
 .nil) }
/-- 14: _law_moves -/
def b__law_moves : Fn := { np := 2, ns := 7, ini := none, body :=
 (.cons (.asg 2 (.dic .nil .nil))
 (.cons (.forS (.nm 3) (.rng1 (.bi .len (.cons (.var 1) .nil)))
 (.cons (.setD 2 (.sub (.var 1) (.var 3)) (.var 3))
 .nil))
 (.cons (.asg 4 (.lst .nil))
 (.cons (.forS (.nm 3) (.ex (.sv (.var 2)))
 (.cons (.forS (.nm 5) (.ex (.lit (.str [97, 98, 99])))
 (.cons (.ifS (.andE (.cmp .ne (.var 5) (.sub (.var 1) (.var 3))) (.cmp .lt (.meth .get2 (.var 2) (.cons (.var 5) (.cons (.neg (.lit (.int 1))) .nil))) (.var 3)))
 (.cons (.asg 6 (.call 13 (.cons (.var 0) (.cons (.var 3) (.cons (.sub (.var 1) (.var 3)) (.cons (.var 5) .nil))))))
 (.cons (.asg 4 (.bin .add (.var 4) (.bin .mul (.lst (.cons (.tup (.cons (.tup (.cons (.var 3) (.cons (.var 5) .nil))) (.cons (.var 6) .nil))) .nil)) (.bi .int (.cons (.cmp .isnot (.var 6) (.lit .non)) .nil)))))
 .nil))
 .nil)
 .nil))
 .nil))
 (.cons (.retV 4)
 .nil))))) }
/-- 15: need_yard -/
def b_need_yard : Fn := { np := 1, ns := 1, ini := none, body :=
 (.cons (.ifS (.notE (.isi (.var 0) [(.cls 8)]))
 (.cons .never
 .nil)
 .nil)
 .nil) }
/-- 16: is_string_for -/
def b_is_string_for : Fn := { np := 2, ns := 3, ini := none, body :=
 (.cons (.ret (.andE (.isi (.var 1) [.str]) (.andE (.cmp .eq (.bi .len (.cons (.var 1) .nil)) (.bi .len (.cons (.var 0) .nil))) (.bi .all (.cons (.lc (.cmp .inn (.var 2) (.glob 0)) (.nm 2) (.ex (.var 1)) (.lit (.bl true))) .nil)))))
 .nil) }
/-- 17: need_arrangement -/
def b_need_arrangement : Fn := { np := 2, ns := 2, ini := none, body :=
 (.cons (.exp (.call 15 (.cons (.var 0) .nil)))
 (.cons (.ifS (.notE (.call 16 (.cons (.var 0) (.cons (.var 1) .nil))))
 (.cons .never
 .nil)
 .nil)
 .nil)) }
/-- 18: third_of -/
def b_third_of : Fn := { np := 2, ns := 3, ini := none, body :=
 (.cons (.ret (.sub (.lc (.var 2) (.nm 2) (.ex (.glob 0)) (.cmp .notin (.var 2) (.tup (.cons (.var 0) (.cons (.var 1) .nil))))) (.lit (.int 0))))
 .nil) }
/-- 19: Yard.need_crate -/
def b_Yard_need_crate : Fn := { np := 2, ns := 2, ini := none, body :=
 (.cons (.ifS (.orE (.notE (.call 7 (.cons (.var 1) .nil))) (.notE (.chain .le .lt (.lit (.int 0)) (.var 1) (.bi .len (.cons (.attr (.var 0) 8 0) .nil)))))
 (.cons .never
 .nil)
 .nil)
 .nil) }
/-- 20: is_way -/
def b_is_way : Fn := { np := 1, ns := 1, ini := none, body :=
 (.cons (.ret (.andE (.isi (.var 0) [.str]) (.cmp .inn (.var 0) (.glob 1))))
 .nil) }
/-- 21: Yard.price -/
def b_Yard_price : Fn := { np := 3, ns := 3, ini := none, body :=
 (.cons (.exp (.mcall 19 (.var 0) (.cons (.var 1) .nil)))
 (.cons (.ifS (.notE (.call 20 (.cons (.var 2) .nil)))
 (.cons .never
 .nil)
 .nil)
 (.cons (.ret (.sub (.sub (.attr (.var 0) 8 0) (.var 1)) (.meth .indexT (.glob 1) (.cons (.var 2) .nil))))
 .nil))) }
/-- 22: price_of -/
def b_price_of : Fn := { np := 3, ns := 7, ini := none, body :=
 (.cons (.asgT [5, 6] (.var 2))
 (.cons (.asg 3 (.sub (.var 1) (.var 5)))
 (.cons (.ifS (.cmp .eq (.var 3) (.var 6))
 (.cons (.ret (.lit .non))
 .nil)
 .nil)
 (.cons (.asg 4 (.slc (.var 1) (.bin .add (.var 5) (.lit (.int 1))) (.lit .non)))
 (.cons (.ifS (.cmp .ne (.var 4) (.bin .mul (.call 18 (.cons (.var 3) (.cons (.var 6) .nil))) (.bi .len (.cons (.var 4) .nil))))
 (.cons (.ret (.lit .non))
 .nil)
 .nil)
 (.cons (.ret (.mcall 21 (.var 0) (.cons (.var 5) (.cons (.bin .add (.var 3) (.var 6)) .nil))))
 .nil)))))) }
/-- 23: allowed -/
def b_allowed : Fn := { np := 2, ns := 6, ini := none, body :=
 (.cons (.exp (.call 17 (.cons (.var 0) (.cons (.var 1) .nil))))
 (.cons (.asg 2 (.lc2 (.tup (.cons (.var 3) (.cons (.var 4) .nil))) (.nm 3) (.rng1 (.bi .len (.cons (.var 0) .nil))) (.nm 4) (.ex (.glob 0)) (.lit (.bl true))))
 (.cons (.ret (.lc (.var 5) (.nm 5) (.ex (.var 2)) (.cmp .isnot (.call 22 (.cons (.var 0) (.cons (.var 1) (.cons (.var 5) .nil)))) (.lit .non))))
 .nil))) }
/-- 24: _law_behind -/
def b__law_behind : Fn := { np := 2, ns := 2, ini := none, body :=
 (.cons (.ret (.bin .add (.bin .add (.slc (.var 0) (.lit .non) (.sub (.var 1) (.lit (.int 0)))) (.sub (.var 1) (.lit (.int 1)))) (.slc (.var 0) (.bin .add (.sub (.var 1) (.lit (.int 0))) (.lit (.int 1))) (.lit .non))))
 .nil) }
/-- 25: is_place -/
def b_is_place : Fn := { np := 1, ns := 1, ini := none, body :=
 (.cons (.ret (.andE (.isi (.var 0) [.str]) (.cmp .inn (.var 0) (.glob 0))))
 .nil) }
/-- 26: is_move -/
def b_is_move : Fn := { np := 2, ns := 2, ini := none, body :=
 (.cons (.ifS (.orE (.notE (.isi (.var 1) [.tuple])) (.orE (.cmp .ne (.bi .len (.cons (.var 1) .nil)) (.lit (.int 2))) (.notE (.call 7 (.cons (.sub (.var 1) (.lit (.int 0))) .nil)))))
 (.cons (.ret (.lit (.bl false)))
 .nil)
 .nil)
 (.cons (.ret (.andE (.chain .le .lt (.lit (.int 0)) (.sub (.var 1) (.lit (.int 0))) (.bi .len (.cons (.var 0) .nil))) (.call 25 (.cons (.sub (.var 1) (.lit (.int 1))) .nil))))
 .nil)) }
/-- 27: need_move -/
def b_need_move : Fn := { np := 3, ns := 3, ini := none, body :=
 (.cons (.exp (.call 17 (.cons (.var 0) (.cons (.var 1) .nil))))
 (.cons (.ifS (.orE (.notE (.call 26 (.cons (.var 0) (.cons (.var 2) .nil)))) (.cmp .is (.call 22 (.cons (.var 0) (.cons (.var 1) (.cons (.var 2) .nil)))) (.lit .non)))
 (.cons .never
 .nil)
 .nil)
 .nil)) }
/-- 28: set_down -/
def b_set_down : Fn := { np := 2, ns := 4, ini := none, body :=
 (.cons (.asgT [2, 3] (.var 1))
 (.cons (.ret (.bin .add (.bin .add (.slc (.var 0) (.lit .non) (.var 2)) (.var 3)) (.slc (.var 0) (.bin .add (.var 2) (.lit (.int 1))) (.lit .non))))
 .nil)) }
/-- 29: moved -/
def b_moved : Fn := { np := 3, ns := 3, ini := none, body :=
 (.cons (.exp (.call 27 (.cons (.var 0) (.cons (.var 1) (.cons (.var 2) .nil)))))
 (.cons (.ret (.call 28 (.cons (.var 1) (.cons (.var 2) .nil))))
 .nil)) }
/-- 30: move_cost -/
def b_move_cost : Fn := { np := 3, ns := 3, ini := none, body :=
 (.cons (.exp (.call 27 (.cons (.var 0) (.cons (.var 1) (.cons (.var 2) .nil)))))
 (.cons (.ret (.call 22 (.cons (.var 0) (.cons (.var 1) (.cons (.var 2) .nil)))))
 .nil)) }
/-- 31: way_back -/
def b_way_back : Fn := { np := 3, ns := 3, ini := none, body :=
 (.cons (.exp (.call 27 (.cons (.var 0) (.cons (.var 1) (.cons (.var 2) .nil)))))
 (.cons (.ret (.tup (.cons (.sub (.var 2) (.lit (.int 0))) (.cons (.sub (.var 1) (.sub (.var 2) (.lit (.int 0)))) .nil))))
 .nil)) }
/-- 32: _law_right -/
def b__law_right : Fn := { np := 3, ns := 11, ini := none, body :=
 (.cons (.asg 3 (.call 14 (.cons (.var 1) (.cons (.var 2) .nil))))
 (.cons (.asg 4 (.call 23 (.cons (.var 0) (.cons (.var 2) .nil))))
 (.cons (.ifS (.orE (.cmp .ne (.bi .repr (.cons (.var 4) .nil)) (.bi .repr (.cons (.lc (.var 5) (.tp [5, 6]) (.ex (.var 3)) (.lit (.bl true))) .nil))) (.notE (.cmp .le (.bi .len (.cons (.var 3) .nil)) (.lit (.int 3)))))
 (.cons (.ret (.lit (.bl false)))
 .nil)
 .nil)
 (.cons (.ifS (.cmp .ne (.lc (.var 5) (.nm 5) (.ex (.var 4)) (.notE (.isi (.var 5) [.tuple]))) (.lst .nil))
 (.cons (.ret (.lit (.bl false)))
 .nil)
 .nil)
 (.cons (.clr 4)
 (.cons (.forS (.tp [5, 6]) (.ex (.var 3))
 (.cons (.asg 7 (.call 24 (.cons (.var 2) (.cons (.var 5) .nil))))
 (.cons (.ifS (.orE (.cmp .ne (.call 29 (.cons (.var 0) (.cons (.var 2) (.cons (.var 5) .nil)))) (.var 7)) (.cmp .ne (.bi .repr (.cons (.call 30 (.cons (.var 0) (.cons (.var 2) (.cons (.var 5) .nil)))) .nil)) (.bi .repr (.cons (.var 6) .nil))))
 (.cons (.ret (.lit (.bl false)))
 .nil)
 .nil)
 (.cons (.ifS (.cmp .ne (.call 31 (.cons (.var 0) (.cons (.var 2) (.cons (.var 5) .nil)))) (.tup (.cons (.sub (.var 5) (.lit (.int 0))) (.cons (.sub (.var 2) (.sub (.var 5) (.lit (.int 0)))) .nil))))
 (.cons (.ret (.lit (.bl false)))
 .nil)
 .nil)
 (.cons (.asg 8 (.lc (.var 10) (.nm 10) (.ex (.call 23 (.cons (.var 0) (.cons (.var 7) .nil)))) (.cmp .eq (.var 10) (.tup (.cons (.sub (.var 5) (.lit (.int 0))) (.cons (.sub (.var 2) (.sub (.var 5) (.lit (.int 0)))) .nil))))))
 (.cons (.asg 9 (.cmp .is (.call 13 (.cons (.var 1) (.cons (.sub (.var 5) (.lit (.int 0))) (.cons (.sub (.var 5) (.lit (.int 1))) (.cons (.sub (.var 2) (.sub (.var 5) (.lit (.int 0)))) .nil))))) (.lit .non)))
 (.cons (.ifS (.cmp .ne (.var 8) (.ifE (.var 9) (.lst .nil) (.lst (.cons (.call 31 (.cons (.var 0) (.cons (.var 2) (.cons (.var 5) .nil)))) .nil))))
 (.cons (.ret (.lit (.bl false)))
 .nil)
 .nil)
 .nil)))))))
 (.cons (.ret (.cmp .eq (.lc (.var 5) (.tp [5, 6]) (.ex (.var 3)) (.lit (.bl true))) (.call 23 (.cons (.var 0) (.cons (.var 2) .nil)))))
 .nil))))))) }
/-- 33: _law_turns_right -/
def b__law_turns_right : Fn := { np := 5, ns := 10, ini := none, body :=
 (.cons (.forS (.tp [5, 6]) (.ex (.call 14 (.cons (.var 1) (.cons (.var 4) .nil))))
 (.cons (.asg 7 (.lc (.var 9) (.tp [8, 9]) (.ex (.call 14 (.cons (.var 3) (.cons (.var 4) .nil)))) (.cmp .eq (.var 8) (.var 5))))
 (.cons (.ifS (.andE (.cmp .ne (.var 7) (.lst .nil)) (.cmp .ne (.call 30 (.cons (.var 2) (.cons (.var 4) (.cons (.var 5) .nil)))) (.sub (.var 7) (.lit (.int 0)))))
 (.cons (.ret (.lit (.bl false)))
 .nil)
 .nil)
 (.cons (.ifS (.orE (.cmp .ne (.cmp .inn (.var 5) (.call 23 (.cons (.var 2) (.cons (.var 4) .nil)))) (.cmp .ne (.var 7) (.lst .nil))) (.cmp .ne (.call 30 (.cons (.var 0) (.cons (.var 4) (.cons (.var 5) .nil)))) (.var 6)))
 (.cons (.ret (.lit (.bl false)))
 .nil)
 .nil)
 .nil))))
 (.cons (.ret (.lit (.bl true)))
 .nil)) }
/-- 34: law -/
def b_law : Fn := { np := 1, ns := 12, ini := none, body :=
 (.cons (.forS (.nm 1) (.rng1 (.bi .max2 (.cons (.lit (.int 2)) (.cons (.bi .min2 (.cons (.lit (.int 6)) (.cons (.bi .len (.cons (.var 0) .nil)) .nil))) .nil))))
 (.cons (.asg 2 (.call 1 (.cons (.call 2 (.cons (.var 0) (.cons (.var 1) .nil))) .nil)))
 (.cons (.asg 3 (.call 4 (.cons (.var 2) (.cons (.sub (.lst (.cons (.lit (.int 4)) (.cons (.lit (.int 12)) (.cons (.lit (.int 60)) .nil)))) (.call 3 (.cons (.var 2) (.cons (.lit (.int 3)) .nil)))) .nil))))
 (.cons (.asg 4 (.call 5 (.cons (.var 2) (.cons (.var 3) .nil))))
 (.cons (.par [7, 8, 9] (.cons (.call 11 (.cons (.var 4) .nil)) (.cons (.call 11 (.cons (.lc (.bin .mul (.lst (.cons (.lit (.int 1)) .nil)) (.lit (.int 6))) (.nm 11) (.rng1 (.var 3)) (.lit (.bl true))) .nil)) (.cons (.call 5 (.cons (.var 2) (.cons (.var 3) .nil))) .nil))))
 (.cons (.asg 5 (.call 11 (.cons (.var 9) .nil)))
 (.cons (.forS (.nm 6) (.ex (.lst (.cons (.call 12 (.cons (.var 2) (.cons (.var 3) .nil))) (.cons (.call 12 (.cons (.var 2) (.cons (.var 3) .nil))) (.cons (.bin .mul (.sub (.lit (.str [97, 98, 99])) (.call 3 (.cons (.var 2) (.cons (.lit (.int 3)) .nil)))) (.var 3)) .nil)))))
 (.cons (.ifS (.notE (.call 32 (.cons (.var 7) (.cons (.var 4) (.cons (.var 6) .nil)))))
 (.cons (.ret (.lit (.bl false)))
 .nil)
 .nil)
 (.cons (.asg 10 (.ifE (.cmp .gt (.ls (.var 6)) (.lit (.int 1))) (.lit (.int 3)) (.lit (.int 2))))
 (.cons (.ifS (.orE (.cmp .ne (.bi .len (.cons (.call 23 (.cons (.var 8) (.cons (.var 6) .nil))) .nil)) (.var 10)) (.notE (.call 33 (.cons (.var 7) (.cons (.var 4) (.cons (.var 5) (.cons (.var 9) (.cons (.var 6) .nil))))))))
 (.cons (.ret (.lit (.bl false)))
 .nil)
 .nil)
 .nil))))
 .nil)))))))
 (.cons (.ret (.lit (.bl true)))
 .nil)) }
def P (rp : D → Option (List Nat)) : Pr := { fns := [b_Yard___len__, b__law_box, b__law_cell, b__law_take, b__law_size, b__law_plain, b_is_list, b_is_integer, b_is_price, b_are_prices, b_is_yard_list, b_Yard___init__, b__law_word, b__law_price, b__law_moves, b_need_yard, b_is_string_for, b_need_arrangement, b_third_of, b_Yard_need_crate, b_is_way, b_Yard_price, b_price_of, b_allowed, b__law_behind, b_is_place, b_is_move, b_need_move, b_set_down, b_moved, b_move_cost, b_way_back, b__law_right, b__law_turns_right, b_law], gl := [(.tup [(.str [97]), (.str [98]), (.str [99])]), (.tup [(.str [97, 98]), (.str [97, 99]), (.str [98, 97]), (.str [98, 99]), (.str [99, 97]), (.str [99, 98])]), (.int 60), (.str [48, 49, 50, 51, 52, 53, 54, 55, 56, 57])], lenF := fun c => if c = 8 then some 0 else none, rp := rp, mc := fun f => if f = 0 then some 8 else if f = 19 then some 8 else if f = 21 then some 8 else none, kc := fun c => c == 8, wf := 100000 }
abbrev f_Yard___len__ : Nat := 0
abbrev f__law_box : Nat := 1
abbrev f__law_cell : Nat := 2
abbrev f__law_take : Nat := 3
abbrev f__law_size : Nat := 4
abbrev f__law_plain : Nat := 5
abbrev f_is_list : Nat := 6
abbrev f_is_integer : Nat := 7
abbrev f_is_price : Nat := 8
abbrev f_are_prices : Nat := 9
abbrev f_is_yard_list : Nat := 10
abbrev f_Yard___init__ : Nat := 11
abbrev f__law_word : Nat := 12
abbrev f__law_price : Nat := 13
abbrev f__law_moves : Nat := 14
abbrev f_need_yard : Nat := 15
abbrev f_is_string_for : Nat := 16
abbrev f_need_arrangement : Nat := 17
abbrev f_third_of : Nat := 18
abbrev f_Yard_need_crate : Nat := 19
abbrev f_is_way : Nat := 20
abbrev f_Yard_price : Nat := 21
abbrev f_price_of : Nat := 22
abbrev f_allowed : Nat := 23
abbrev f__law_behind : Nat := 24
abbrev f_is_place : Nat := 25
abbrev f_is_move : Nat := 26
abbrev f_need_move : Nat := 27
abbrev f_set_down : Nat := 28
abbrev f_moved : Nat := 29
abbrev f_move_cost : Nat := 30
abbrev f_way_back : Nat := 31
abbrev f__law_right : Nat := 32
abbrev f__law_turns_right : Nat := 33
abbrev f_law : Nat := 34
def prog : Pr := P rpD
theorem at_Yard___len__ : prog.fns[0]? = some b_Yard___len__ := rfl
theorem at__law_box : prog.fns[1]? = some b__law_box := rfl
theorem at__law_cell : prog.fns[2]? = some b__law_cell := rfl
theorem at__law_take : prog.fns[3]? = some b__law_take := rfl
theorem at__law_size : prog.fns[4]? = some b__law_size := rfl
theorem at__law_plain : prog.fns[5]? = some b__law_plain := rfl
theorem at_is_list : prog.fns[6]? = some b_is_list := rfl
theorem at_is_integer : prog.fns[7]? = some b_is_integer := rfl
theorem at_is_price : prog.fns[8]? = some b_is_price := rfl
theorem at_are_prices : prog.fns[9]? = some b_are_prices := rfl
theorem at_is_yard_list : prog.fns[10]? = some b_is_yard_list := rfl
theorem at_Yard___init__ : prog.fns[11]? = some b_Yard___init__ := rfl
theorem at__law_word : prog.fns[12]? = some b__law_word := rfl
theorem at__law_price : prog.fns[13]? = some b__law_price := rfl
theorem at__law_moves : prog.fns[14]? = some b__law_moves := rfl
theorem at_need_yard : prog.fns[15]? = some b_need_yard := rfl
theorem at_is_string_for : prog.fns[16]? = some b_is_string_for := rfl
theorem at_need_arrangement : prog.fns[17]? = some b_need_arrangement := rfl
theorem at_third_of : prog.fns[18]? = some b_third_of := rfl
theorem at_Yard_need_crate : prog.fns[19]? = some b_Yard_need_crate := rfl
theorem at_is_way : prog.fns[20]? = some b_is_way := rfl
theorem at_Yard_price : prog.fns[21]? = some b_Yard_price := rfl
theorem at_price_of : prog.fns[22]? = some b_price_of := rfl
theorem at_allowed : prog.fns[23]? = some b_allowed := rfl
theorem at__law_behind : prog.fns[24]? = some b__law_behind := rfl
theorem at_is_place : prog.fns[25]? = some b_is_place := rfl
theorem at_is_move : prog.fns[26]? = some b_is_move := rfl
theorem at_need_move : prog.fns[27]? = some b_need_move := rfl
theorem at_set_down : prog.fns[28]? = some b_set_down := rfl
theorem at_moved : prog.fns[29]? = some b_moved := rfl
theorem at_move_cost : prog.fns[30]? = some b_move_cost := rfl
theorem at_way_back : prog.fns[31]? = some b_way_back := rfl
theorem at__law_right : prog.fns[32]? = some b__law_right := rfl
theorem at__law_turns_right : prog.fns[33]? = some b__law_turns_right := rfl
theorem at_law : prog.fns[34]? = some b_law := rfl
abbrev g_PLACES : D := (.tup [(.str [97]), (.str [98]), (.str [99])])
@[simp] theorem gl_0 : prog.gl[0]? = some g_PLACES := (rfl)
abbrev g_WAYS : D := (.tup [(.str [97, 98]), (.str [97, 99]), (.str [98, 97]), (.str [98, 99]), (.str [99, 97]), (.str [99, 98])])
@[simp] theorem gl_1 : prog.gl[1]? = some g_WAYS := (rfl)
abbrev g_MOST_CRATES : D := (.int 60)
@[simp] theorem gl_2 : prog.gl[2]? = some g_MOST_CRATES := (rfl)
abbrev g_DIGITS : D := (.str [48, 49, 50, 51, 52, 53, 54, 55, 56, 57])
@[simp] theorem gl_3 : prog.gl[3]? = some g_DIGITS := (rfl)
@[simp] theorem rp_is : prog.rp = rpD := (rfl)
@[simp] theorem wf_is : prog.wf = 100000 := (rfl)
abbrev c_CratesError : Nat := 0
abbrev c_InvalidYard : Nat := 1
abbrev c_InvalidText : Nat := 2
abbrev c_InvalidArrangement : Nat := 3
abbrev c_InvalidWay : Nat := 4
abbrev c_InvalidCrate : Nat := 5
abbrev c_InvalidMove : Nat := 6
abbrev c_InvalidCount : Nat := 7
abbrev c_Yard : Nat := 8
@[simp] theorem mc_0 : prog.mc 0 = some 8 := (rfl)
@[simp] theorem mc_19 : prog.mc 19 = some 8 := (rfl)
@[simp] theorem mc_21 : prog.mc 21 = some 8 := (rfl)
@[simp] theorem kc_Yard : prog.kc 8 = true := (rfl)
@[simp] theorem lenF_Yard : prog.lenF 8 = some 0 := (rfl)
end PD.k11
namespace PD.k11
open PD
/-! ### boxes -/
theorem box_eq (n : Nat) (st : Store) (c : Int) : run prog (n + 1) f__law_box [.int c] st = .ok (.all, .hnd st.length) (st ++ [.nums [if 0 < c - 1000000000000000000 then c - 1000000000000000000 else 0, c % 2147483629, 0]]) := by
  rw [run_f at__law_box rfl]
  have e : (10 : Int) ^ 18 = 1000000000000000000 := by decide
  simp [b__law_box]
theorem box_ok (n : Nat) (st : Store) (c : Int) : Ok (run prog (n + 1) f__law_box [.int c] st) fun v st' => ∃ h, v = (.all, .hnd h) ∧ BoxAt st' h 0 := by
  refine Ok.of_eq (box_eq n st c) ⟨st.length, rfl, _, _, _, List.getElem?_concat_length, ?_, ?_, ?_, Int.le_refl 0, Int.le_refl 0⟩
  · split <;> omega
  · omega
  · omega
theorem cell_ok (n : Nat) (st : Store) (ns : List Int) (k : Nat) (hk : k < 100) : Ok (run prog (n + 1) f__law_cell [.scr ns, .int k] st) fun v st' => ∃ c : Int, v = (.all, .int c) ∧ st' = st := by
  rw [run_f at__law_cell rfl]
  by_cases h : k < ns.length
  · have h' : (k : Int) < (ns.length : Int) := by omega
    simp [b__law_cell, h', h]
  · have h' : ¬ (k : Int) < (ns.length : Int) := by omega
    have e1 : nlog (k : Int) < 64 := nlog_lit (by omega) (by omega)
    have e2 : nlog 32452843 < 64 := nlog_lit (by omega) (by omega)
    have e3 : nlog 32452843 + nlog (k : Int) < 1000000 := by omega
    simp [b__law_cell, h', h, e3, intsOf_map]
theorem take_ok (n h c : Nat) (m : Int) (st : Store) (B : BoxAt st h c) (hc : c ≤ 1000000000) (hm : 0 < m) (hm2 : m < 2 ^ 200) : Ok (run prog (n + 1) f__law_take [.hnd h, .int m] st) fun v st' => ∃ d : Nat, v = (.all, .int d) ∧ (d : Int) < m ∧ BoxAt st' h (c + 1) := by
  rw [run_f at__law_take rfl]
  obtain ⟨a, b, k, h1, h2, h3, h4, h5, h6⟩ := B
  have hl : h < st.length := (List.getElem?_eq_some_iff.mp h1).1
  have hs : ∀ x : Cell, (st.set h x)[h]? = some x := fun x => List.getElem?_set_self hl
  have l0 : nlog m < 9000 := by have : nlog m < 200 := nlog_lt (by omega) (by omega); omega
  by_cases ha : 0 < a
  · simp [b__law_take, h1, ha, hm, l0]
    refine ⟨(a % m).toNat, ?_, ?_, a / m, b, k, ?_, ?_, h3, h4, h5, by omega⟩
    · rw [Int.toNat_of_nonneg (Int.emod_nonneg _ (by omega))]
    · rw [Int.toNat_of_nonneg (Int.emod_nonneg _ (by omega))]; exact Int.emod_lt_of_pos _ hm
    · exact hs _
    · exact Int.ediv_nonneg h2 (by omega)
  · have e1 : nlog (k + 1) < 64 := nlog_lit (by omega) (by omega)
    have e2 : nlog 32452843 < 64 := nlog_lit (by omega) (by omega)
    have e3 : nlog 32452843 + nlog (k + 1) < 1000000 := by omega
    have e4 : nlog 72497 < 64 := nlog_lit (by omega) (by omega)
    have e5 : nlog 72497 + nlog (k + 1) < 1000000 := by omega
    have e6 : (b + 32452843 * (k + 1) + 271).natAbs < 18446744073709551616 := by omega
    have e7 : ((b + 32452843 * (k + 1) + 271) ^ 5 % 2147483647 + 72497 * (k + 1)).natAbs < 18446744073709551616 := by omega
    have e8 : nlog 16 < 9000 := by have : nlog 16 < 64 := nlog_lit (by omega) (by omega); omega
    simp [b__law_take, h1, ha, hm, l0, hs, e3, e5, e6, e7, e8]
    generalize (((b + 32452843 * (k + 1) + 271) ^ 5 % 2147483647 + 72497 * (k + 1)) ^ 3 % 2147483587 / 16) = q
    refine ⟨(q % m).toNat, ?_, ?_, a, b, k + 1, ?_, h2, h3, h4, by omega, by omega⟩
    · rw [Int.toNat_of_nonneg (Int.emod_nonneg _ (by omega))]
    · rw [Int.toNat_of_nonneg (Int.emod_nonneg _ (by omega))]; exact Int.emod_lt_of_pos _ hm
    · exact hs _

end PD.k11
namespace PD.k11
open PD
/-! ### yards -/
theorem is_integer_int (n : Nat) (st : Store) (x : Int) : run prog (n + 1) f_is_integer [.int x] st = .ok (.all, .bl true) st := by
  rw [run_f at_is_integer rfl]
  simp [b_is_integer]
theorem is_price_int (n : Nat) (st : Store) (x : Int) : run prog (n + 2) f_is_price [.int x] st = .ok (.all, .bl (decide (0 < x))) st := by
  rw [run_f at_is_price rfl]
  simp [b_is_price, is_integer_int]
theorem is_list_lst (n : Nat) (st : Store) (xs : List D) : run prog (n + 1) f_is_list [.lst xs] st = .ok (.all, .bl true) st := by
  rw [run_f at_is_list rfl]
  simp [b_is_list]
theorem are_prices_ok (n : Nat) (st : Store) (r : List (Option Int)) : run prog (n + 3) f_are_prices [rowD r] st = .ok (.all, .bl (okRow r)) st := by
  rw [run_f at_are_prices rfl]
  by_cases h6 : r.length = 6
  · simp [b_are_prices, rowD, is_list_lst, h6, okRow, maxLen]
    rw [gather_pure priceD (fun p => some (.bl (okPrice p))) r []]
    · simp [boolsOf_map, List.all_map]
    · intro p hp
      rw [lcF_is]
      cases p with
      | none => simp [priceD, okPrice]
      | some x => simp [priceD, okPrice, is_price_int]
  · have h6' : ¬ (r.length : Int) = 6 := by omega
    simp [b_are_prices, rowD, is_list_lst, h6', h6, okRow]
theorem is_yard_list_ok (n : Nat) (st : Store) (rs : Rows) : run prog (n + 4) f_is_yard_list [rowsD rs] st = .ok (.all, .bl (okRows rs)) st := by
  rw [run_f at_is_yard_list rfl]
  by_cases h1 : 1 ≤ rs.length
  · by_cases h2 : rs.length ≤ 60
    · have h1' : (1 : Int) ≤ (rs.length : Int) := by omega
      have h2' : (rs.length : Int) ≤ 60 := by omega
      have h3 : ¬ maxLen < rs.length := by unfold maxLen; omega
      simp [b_is_yard_list, rowsD, is_list_lst, h1', h2', okRows, h1, h2, h3]
      rw [gather_pure rowD (fun p => some (.bl (okRow p))) rs []]
      · simp [boolsOf_map, List.all_map]
      · intro p hp
        rw [lcF_is]
        simp [are_prices_ok]
    · have h1' : (1 : Int) ≤ (rs.length : Int) := by omega
      have h2' : ¬ (rs.length : Int) ≤ 60 := by omega
      simp [b_is_yard_list, rowsD, is_list_lst, h1', h2', okRows, h1, h2]
  · have h1' : ¬ (1 : Int) ≤ (rs.length : Int) := by omega
    simp [b_is_yard_list, rowsD, is_list_lst, h1', okRows, h1]
abbrev yardD (rs : Rows) : D := .ins c_Yard [rowsD rs]
theorem yard_ok (n : Nat) (st : Store) (rs : Rows) (h : okRows rs = true) : run prog (n + 5) f_Yard___init__ [rowsD rs] st = .ok (.all, yardD rs) st := by
  rw [run_i at_Yard___init__ rfl]
  have h3 : ¬ maxLen < rs.length := by
    unfold okRows at h
    simp at h
    unfold maxLen; omega
  have hn : rs ≠ [] := by
    unfold okRows at h
    simp at h
    intro z
    rw [z] at h
    simp at h
  simp [b_Yard___init__, is_yard_list_ok, h]
  simp [rowsD, h3]
  rw [gather_pure rowD (fun p => some (rowD p)) rs []]
  · simp [rowsD]
  · intro p hp
    rw [lcF_is]
    simp [rowD, newO_prices]
theorem yard_len (n : Nat) (st : Store) (rs : Rows) : run prog (n + 1) f_Yard___len__ [yardD rs] st = .ok (.all, .int rs.length) st := by
  rw [run_f at_Yard___len__ rfl]
  simp [b_Yard___len__, rowsD]
theorem need_yard_ok (n : Nat) (st : Store) (rs : Rows) : run prog (n + 1) f_need_yard [yardD rs] st = .ok (.all, .non) st := by
  rw [run_f at_need_yard rfl]
  simp [b_need_yard]

end PD.k11
namespace PD.k11
open PD
/-! ### arrangements -/
theorem is_string_str (n : Nat) (st : Store) (rs : Rows) (w : List Nat) (hr : rs.length < 1000000) (hw : w.length < 1000000) : run prog (n + 2) f_is_string_for [yardD rs, .str w] st = .ok (.all, .bl (decide (w.length = rs.length) && okWord w)) st := by
  rw [run_f at_is_string_for rfl]
  have e1 : (rs.length : Int) < 1000000000 := by omega
  have e2 : w.length ≤ maxLen := by unfold maxLen; omega
  have e3 : ¬ maxLen < w.length := by unfold maxLen; omega
  by_cases h : w.length = rs.length
  · simp [b_is_string_for, yard_len, e1, e2, e3, h]
    have e2' : rs.length ≤ maxLen := by rw [← h]; exact e2
    have e3' : ¬ maxLen < rs.length := by rw [← h]; exact e3
    simp [e2', e3', h]
    rw [gather_pure (fun c => .str [c]) (fun c => some (.bl (isPl c))) w []]
    · simp [boolsOf_map, okWord, List.all_map]
    · intro c hc
      rw [lcF_is]
      simp [deqF_is, isPl]
      rw [show (97 == c || (98 == c || 99 == c)) = (c == 97 || (c == 98 || c == 99)) by rw [Bool.beq_comm (a := 97), Bool.beq_comm (a := 98), Bool.beq_comm (a := 99)]]
  · have h' : ¬ (w.length : Int) = (rs.length : Int) := by omega
    simp [b_is_string_for, yard_len, e1, e2, e3, h, h']
theorem is_string_no (n : Nat) (st : Store) (y v : D) (h1 : tyOk prog.kc v = true) (h2 : tyD .str v = false) : run prog (n + 2) f_is_string_for [y, v] st = .ok (.all, .bl false) st := by
  rw [run_f at_is_string_for rfl]
  have e : flatO v = flatO v := rfl
  simp [b_is_string_for, h1, h2]
theorem need_arrangement_ok (n : Nat) (st : Store) (rs : Rows) (w : List Nat) (hr : rs.length < 1000000) (hw : w.length = rs.length) (ho : okWord w = true) : run prog (n + 3) f_need_arrangement [yardD rs, .str w] st = .ok (.all, .non) st := by
  rw [run_f at_need_arrangement rfl]
  simp [b_need_arrangement, need_yard_ok, is_string_str n st rs w hr (by omega), hw, ho]
theorem is_place_ok (n : Nat) (st : Store) (c : Nat) (h : isPl c = true) : run prog (n + 1) f_is_place [.str [c]] st = .ok (.all, .bl true) st := by
  rw [run_f at_is_place rfl]
  rcases isPl_by h with rfl | rfl | rfl <;> simp [b_is_place, deqF_is]

end PD.k11
namespace PD.k11
open PD
/-! ### drawn things -/
theorem size_ok (n h c : Nat) (most : Nat) (st : Store) (B : BoxAt st h c) (hc : c ≤ 1000000) (hm : 1 ≤ most) (hm2 : most ≤ 1000) : Ok (run prog (n + 2) f__law_size [.hnd h, .int most] st) fun v st' => ∃ s : Nat, v = (.all, .int s) ∧ 1 ≤ s ∧ s ≤ most ∧ BoxAt st' h (c + 2) := by
  rw [run_f at__law_size rfl]
  simp [b__law_size, Ok_bind, Ok_fin]
  refine Ok.mono (take_ok n h c most st B (by omega) (by omega) (by omega)) ?_
  rintro _ st1 ⟨d, rfl, hd, B1⟩
  by_cases z : d = 0
  · subst z
    simp [Ok_bind]
    refine Ok.mono (take_ok n h (c + 1) 4 st1 B1 (by omega) (by omega) (by omega)) ?_
    rintro _ st2 ⟨e, rfl, he, B2⟩
    by_cases y : e = 0
    · subst y
      simp
      exact ⟨1, rfl, by omega, hm, B2⟩
    · have : 0 < e := by omega
      simp [this]
      exact ⟨most, rfl, hm, by omega, B2⟩
  · have z' : ¬ (1 + (d : Int) = 1) := by omega
    simp [z', z]
    exact ⟨d + 1, by omega, by omega, by omega, B1.mono (by omega)⟩
theorem word_ok (n h c : Nat) (size : Nat) (st : Store) (B : BoxAt st h c) (hc : c ≤ 1000000) (hm : size ≤ 60) : Ok (run prog (n + 2) f__law_word [.hnd h, .int size] st) fun v st' => ∃ w : List Nat, v = (.all, .str w) ∧ w.length = size ∧ okWord w = true ∧ BoxAt st' h (c + size) := by
  rw [run_f at__law_word rfl]
  have e3 : ¬ maxLen < size := by unfold maxLen; omega
  simp [b__law_word, Ok_bind, Ok_fin, small_nat (n := size) (by omega), rangeD_nat, e3]
  refine Ok.mono (gather_ok (fun k : Nat => D.int (k : Int)) (fun j st => BoxAt st h j) (fun d => ∃ x, isPl x = true ∧ d = .str [x]) (List.range size) [] c st B ?_) ?_
  · intro a ha j st1 hj B1
    rw [List.length_range] at hj
    rw [lcF_is]
    simp [Ok_bind, Ok_noX]
    refine Ok.mono (take_ok n h j 3 st1 B1 (by omega) (by omega) (by omega)) ?_
    rintro _ st2 ⟨d, rfl, hd, B2⟩
    have e : d = 0 ∨ d = 1 ∨ d = 2 := by omega
    rcases e with rfl | rfl | rfl
    · simp [maxLen]
      exact ⟨rfl, B2⟩
    · simp [maxLen]
      exact ⟨rfl, B2⟩
    · simp [maxLen]
      exact ⟨rfl, B2⟩
  · rintro _ st1 ⟨ds, rfl, hl, hT, B1⟩
    have key : ∀ ds : List D, (∀ d ∈ ds, ∃ x, isPl x = true ∧ d = .str [x]) → ∃ w, okWord w = true ∧ ds = w.map fun c => .str [c] := by
      intro ds
      induction ds with
      | nil => intro _; exact ⟨[], rfl, rfl⟩
      | cons d ds ih =>
        intro h
        obtain ⟨x, hx, rfl⟩ := h d (by simp)
        obtain ⟨w, hw, rfl⟩ := ih fun d hd => h d (by simp [hd])
        exact ⟨x :: w, by simp only [okWord, List.all_cons, hx, Bool.true_and]; exact hw, rfl⟩
    obtain ⟨w, hw, rfl⟩ := key ds hT
    have lw : w.length = size := by simpa using hl
    have e4 : w.length ≤ maxLen := by unfold maxLen; omega
    simp [-me_join, join_signs, e4]
    exact ⟨lw, hw, by simpa using B1⟩
theorem plain_ok (n h c : Nat) (size : Nat) (st : Store) (B : BoxAt st h c) (hc : c ≤ 1000000) (h1 : 1 ≤ size) (hm : size ≤ 60) : Ok (run prog (n + 2) f__law_plain [.hnd h, .int size] st) fun v st' => ∃ rs : Rows, v = (.top, rowsD rs) ∧ rs.length = size ∧ rs.all goodRow = true ∧ BoxAt st' h (c + 2000) := by
  have e3 : ¬ maxLen < size := by unfold maxLen; omega
  generalize hK : 2000 = K
  refine ok_fn at__law_plain rfl rfl ?_
  refine Ok.cons (fun fl st' => ∃ x : Int, fl = .next [some (.all, .hnd h), some (.all, .int size), some (.all, .int x), none, none, none, none, none, none, none] ∧ BoxAt st' h (c + 1)) ?_ ?_
  · simp [b__law_plain, Ok_bind]
    refine Ok.mono (take_ok n h c 5 st B (by omega) (by omega) (by omega)) ?_
    rintro _ st1 ⟨d, rfl, hd, B1⟩
    have e : d = 0 ∨ d = 1 ∨ d = 2 ∨ d = 3 ∨ d = 4 := by omega
    rcases e with rfl | rfl | rfl | rfl | rfl <;> simp <;> exact B1
  rintro _ st1 ⟨x, rfl, B1⟩
  simp only [goOn_next]
  refine Ok.cons (fun fl st' => ∃ g f : Bool, fl = .next [some (.all, .hnd h), some (.all, .int size), some (.all, .int x), none, some (.all, .bl g), some (.all, .bl f), some (.all, .lst []), none, none, none] ∧ BoxAt st' h (c + 3)) ?_ ?_
  · simp [Ok_bind]
    refine Ok.mono (take_ok n h (c + 1) 6 st1 B1 (by omega) (by omega) (by omega)) ?_
    rintro _ st2 ⟨d, rfl, hd, B2⟩
    simp [Ok_bind]
    refine Ok.mono (take_ok n h (c + 2) 4 st2 B2 (by omega) (by omega) (by omega)) ?_
    rintro _ st3 ⟨d2, rfl, hd2, B3⟩
    by_cases z1 : d = 0 <;> by_cases z2 : d2 = 0 <;> simp [z1, z2] <;> exact B3
  rintro _ st2 ⟨g, f, rfl, B2⟩
  simp only [goOn_next]
  refine Ok.cons (fun fl st' => ∃ (s3 s7 s8 s9 : Option VD) (rs : Rows), fl = .next [some (.all, .hnd h), some (.all, .int size), some (.all, .int x), s3, some (.all, .bl g), some (.all, .bl f), some (.top, rowsD rs), s7, s8, s9] ∧ rs.length = size ∧ rs.all goodRow = true ∧ BoxAt st' h (c + K)) ?_ ?_
  · simp only [es_for, ev_rng1, ev_var, view_cons, view_nil, List.getElem?_cons_succ, List.getElem?_cons_zero, Option.map_some, varR_some, bind_ok, onInt_int, small_nat (n := size) (by omega), rangeD_nat, if_true]
    refine loopF_ok (fun xs ρ st' => ∃ (o : Own) (s3 s7 s8 s9 : Option VD) (rs : Rows), ρ = [some (.all, .hnd h), some (.all, .int size), some (.all, .int x), s3, some (.all, .bl g), some (.all, .bl f), some (o, rowsD rs), s7, s8, s9] ∧ rs.length + xs.length = size ∧ (rs ≠ [] → o = .top) ∧ (rs = [] → o = .all) ∧ rs.all goodRow = true ∧ BoxAt st' h (c + 3 + 24 * rs.length)) ?_ ?_ _ _ _ ?_
    · rintro y xs ρ st3 ⟨o, s3, s7, s8, s9, rs, rfl, hl, ho1, ho2, hg, B3⟩
      simp only [List.length_cons] at hl
      refine ⟨_, rfl, ?_⟩
      have ho3 : o ≠ .no := by
        by_cases z : rs = []
        · rw [ho2 z]; decide
        · rw [ho1 z]; decide
      simp only [put_succ, put_zero]
      refine Ok.cons (fun fl st' => fl = .next [some (.all, .hnd h), some (.all, .int size), some (.all, .int x), some (flatO y, y), some (.all, .bl g), some (.all, .bl f), some (o, rowsD rs), some (.all, .lst []), s8, s9] ∧ st' = st3) (by simp) ?_
      rintro _ _ ⟨rfl, rfl⟩
      simp only [goOn_next]
      refine Ok.cons (fun fl st' => ∃ (s8 s9 : Option VD) (r : List (Option Int)), fl = .next [some (.all, .hnd h), some (.all, .int size), some (.all, .int x), some (flatO y, y), some (.all, .bl g), some (.all, .bl f), some (o, rowsD rs), some (.all, rowD r), s8, s9] ∧ goodRow r = true ∧ BoxAt st' h (c + 3 + 24 * rs.length + 24)) ?_ ?_
      · simp [Ok_bind, small_nat (n := 6) (by omega), show small 6 = true by decide, show rangeD 0 6 = (List.range 6).map (fun k : Nat => D.int (k : Int)) from rangeD_nat (n := 6)]
        refine loopF_ok (fun xs ρ st' => ∃ (s8 s9 : Option VD) (r : List (Option Int)), ρ = [some (.all, .hnd h), some (.all, .int size), some (.all, .int x), some (flatO y, y), some (.all, .bl g), some (.all, .bl f), some (o, rowsD rs), some (.all, rowD r), s8, s9] ∧ r.length + xs.length = 6 ∧ r.all goodPrice = true ∧ BoxAt st' h (c + 3 + 24 * rs.length + 4 * r.length)) ?_ ?_ _ _ _ ?_
        · rintro y2 xs2 ρ st4 ⟨s8, s9, r, rfl, hl, hg, B4⟩
          refine ⟨_, rfl, ?_⟩
          simp only [put_succ, put_zero]
          simp only [List.length_cons] at hl
          generalize hq : c + 3 + 24 * rs.length + 4 * r.length = q at B4
          have hq2 : q < 1000000000 - 10 := by omega
          have n27 : (10 : Int) ^ 27 = 1000000000000000000000000000 := by decide
          refine Ok.cons (fun fl st' => ∃ p : Int, 1 ≤ p ∧ p ≤ 100 ∧ fl = .next [some (.all, .hnd h), some (.all, .int size), some (.all, .int x), some (flatO y, y), some (.all, .bl g), some (.all, .bl f), some (o, rowsD rs), some (.all, rowD r), some (flatO y2, y2), some (.all, .int p)] ∧ BoxAt st' h (q + 2)) ?_ ?_
          · simp only [es_asg, ev_sub, ev_lst, ev_cons, ev_lit, ev_bin, ev_call, ev_var, ev_nil, bind_ok, view_cons, view_nil, List.getElem?_cons_zero, Option.map_some, varR_some, Ok_bind]
            refine Ok.mono (take_ok n h q 20 st4 B4 (by omega) (by omega) (by omega)) ?_
            rintro _ st5 ⟨d, rfl, hd, B5⟩
            cases f with
            | true =>
              simp
              exact ⟨1, by omega, by omega, rfl, B5.mono (by omega)⟩
            | false =>
              simp [Ok_bind]
              refine Ok.mono (take_ok n h (q + 1) 6 st5 B5 (by omega) (by omega) (by omega)) ?_
              rintro _ st6 ⟨d2, rfl, hd2, B6⟩
              have e : d2 = 0 ∨ d2 = 1 ∨ d2 = 2 ∨ d2 = 3 ∨ d2 = 4 ∨ d2 = 5 := by omega
              rcases e with rfl | rfl | rfl | rfl | rfl | rfl <;> simp <;> exact ⟨_, by omega, by omega, rfl, B6⟩
          rintro _ st5 ⟨p, hp1, hp2, rfl, B5⟩
          simp only [goOn_next]
          refine Ok.cons (fun fl st' => ∃ p : Int, goodPrice (some p) = true ∧ fl = .next [some (.all, .hnd h), some (.all, .int size), some (.all, .int x), some (flatO y, y), some (.all, .bl g), some (.all, .bl f), some (o, rowsD rs), some (.all, rowD r), some (flatO y2, y2), some (.all, .int p)] ∧ BoxAt st' h (q + 3)) ?_ ?_
          · have e1 : nlog p < 64 := nlog_lit (by omega) (by omega)
            have e2 : nlog 1000000000000000000000000000 < 200 := nlog_lt (by decide) (by omega)
            have e3 : nlog p + nlog 1000000000000000000000000000 < 1000000 := by omega
            cases g with
            | true =>
              cases f with
              | true =>
                simp
                refine ⟨_, ?_, rfl, B5.mono (by omega)⟩; exact decide_eq_true ⟨by omega, by omega⟩
              | false =>
                simp [Ok_bind, n27, e3]
                refine Ok.mono (take_ok n h (q + 2) 9 st5 B5 (by omega) (by omega) (by omega)) ?_
                rintro _ st6 ⟨d2, rfl, hd2, B6⟩
                simp
                refine ⟨_, ?_, rfl, B6⟩; exact decide_eq_true ⟨by omega, by omega⟩
            | false =>
              simp
              refine ⟨_, ?_, rfl, B5.mono (by omega)⟩; exact decide_eq_true ⟨by omega, by omega⟩
          rintro _ st6 ⟨p2, hp3, rfl, B6⟩
          simp only [goOn_next]
          have e5 : r.length < maxLen := by unfold maxLen; omega
          refine Ok.cons (fun fl st' => ∃ a : Option Int, goodPrice a = true ∧ fl = .next [some (.all, .hnd h), some (.all, .int size), some (.all, .int x), some (flatO y, y), some (.all, .bl g), some (.all, .bl f), some (o, rowsD rs), some (.all, rowD (r ++ [a])), some (flatO y2, y2), some (.all, .int p2)] ∧ BoxAt st' h (q + 4)) ?_ ?_
          · simp [Ok_bind, rowD, e5]
            refine Ok.mono (take_ok n h (q + 3) 20 st6 B6 (by omega) (by omega) (by omega)) ?_
            rintro _ st7 ⟨d3, rfl, hd3, B7⟩
            by_cases z : (d3 : Int) < x
            · simp [z]
              exact ⟨none, rfl, rfl, B7⟩
            · simp [z]
              exact ⟨some p2, hp3, rfl, B7⟩
          rintro _ st7 ⟨a, ha, rfl, B7⟩
          simp only [goOn_next, es_nil, Ok_ok]
          refine ⟨_, _, r ++ [a], rfl, by simp; omega, ?_, B7.mono (by simp; omega)⟩
          rw [List.all_append, hg]
          simpa using ha
        · rintro ρ st4 ⟨s8, s9, r, rfl, hl, hg, B4⟩
          refine ⟨s8, s9, r, rfl, ?_, B4.mono (by simp at hl; omega)⟩
          unfold goodRow
          rw [hg, decide_eq_true (by simpa using hl)]
          rfl
        · exact ⟨s8, s9, [], rfl, rfl, rfl, B3⟩
      · rintro _ st4 ⟨s8, s9, r, rfl, hgr, B4⟩
        have e5 : rs.length < maxLen := by unfold maxLen; omega
        simp only [goOn_next]
        refine Ok.cons (fun fl st' => fl = .next [some (.all, .hnd h), some (.all, .int size), some (.all, .int x), some (flatO y, y), some (.all, .bl g), some (.all, .bl f), some (.top, rowsD (rs ++ [r])), some (.no, rowD r), s8, s9] ∧ st' = st4) (by simp [rowsD, rowD, ho3, e5]) ?_
        rintro _ _ ⟨rfl, rfl⟩
        simp only [goOn_next, es_nil, Ok_ok]
        refine ⟨.top, _, _, _, _, rs ++ [r], rfl, by simp; omega, fun _ => rfl, by simp, ?_, B4.mono (by simp; omega)⟩
        rw [List.all_append, hg]
        simpa using hgr
    · rintro ρ st3 ⟨o, s3, s7, s8, s9, rs, rfl, hl, ho1, ho2, hg, B3⟩
      have z : rs ≠ [] := fun z => by rw [z] at hl; simp at hl; omega
      rw [ho1 z]
      exact ⟨s3, s7, s8, s9, rs, rfl, by simpa using hl, hg, B3.mono (by simp at hl; omega)⟩
    · exact ⟨.all, none, none, none, none, [], rfl, by simp, by simp, by simp, rfl, B2⟩
  rintro _ st3 ⟨s3, s7, s8, s9, rs, rfl, hl, hg, B3⟩
  simp
  exact ⟨rs, rfl, hl, by simpa using hg, B3⟩

end PD.k11
namespace PD.k11
open PD
/-! ### moves -/
theorem need_crate_ok (n : Nat) (st : Store) (rs : Rows) (k : Nat) (hk : k < rs.length) : run prog (n + 2) f_Yard_need_crate [yardD rs, .int k] st = .ok (.all, .non) st := by
  rw [run_f at_Yard_need_crate rfl]
  have h : (k : Int) < (rs.length : Int) := by omega
  simp [b_Yard_need_crate, is_integer_int, rowsD, h, hk]
theorem is_way_ok (n : Nat) (st : Store) (a b : Nat) (ha : isPl a = true) (hb : isPl b = true) (hn : a ≠ b) : run prog (n + 1) f_is_way [.str [a, b]] st = .ok (.all, .bl true) st := by
  rw [run_f at_is_way rfl]
  rcases isPl_by ha with rfl | rfl | rfl <;> rcases isPl_by hb with rfl | rfl | rfl <;> first | (exact absurd rfl hn) | simp [b_is_way, deqF_is]
theorem way_index {a b : Nat} (ha : isPl a = true) (hb : isPl b = true) (hn : a ≠ b) : findIx (.str [a, b]) [.str [97, 98], .str [97, 99], .str [98, 97], .str [98, 99], .str [99, 97], .str [99, 98]] = some (wayI a b) := by
  rcases isPl_by ha with rfl | rfl | rfl <;> rcases isPl_by hb with rfl | rfl | rfl <;> first | (exact absurd rfl hn) | rfl
theorem price_ok (n : Nat) (st : Store) (rs : Rows) (k a b : Nat) (hr : rs.all goodRow = true) (hk : k < rs.length) (ha : isPl a = true) (hb : isPl b = true) (hn : a ≠ b) : run prog (n + 3) f_Yard_price [yardD rs, .int k, .str [a, b]] st = .ok (.all, priceD (prc rs k a b)) st := by
  rw [run_f at_Yard_price rfl]
  obtain ⟨r, h1, h2, h3⟩ := prc_get hr hk ha hb hn
  obtain ⟨_, h1'⟩ := List.getElem?_eq_some_iff.mp h1
  obtain ⟨_, h3'⟩ := List.getElem?_eq_some_iff.mp h3
  clear h3
  generalize prc rs k a b = p at *
  have w := wayI_lt ha hb hn
  simp [b_Yard_price, need_crate_ok n st rs k hk, is_way_ok (n + 1) st a b ha hb hn, way_index ha hb hn, rowsD, rowD, hk, h1', h2, h3', w, maxLen]
  cases p <;> simp [priceD]
theorem third_of_ok (n : Nat) (st : Store) (a b : Nat) (ha : isPl a = true) (hb : isPl b = true) (hn : a ≠ b) : run prog (n + 1) f_third_of [.str [a], .str [b]] st = .ok (.all, .str [294 - a - b]) st := by
  rw [run_f at_third_of rfl]
  simp [b_third_of, maxLen]
  rw [show ([D.str [97], D.str [98], D.str [99]] : List D) = [97, 98, 99].map fun c => D.str [c] from rfl]
  rw [gather_pure (fun c : Nat => D.str [c]) (fun c => if c = a ∨ c = b then none else some (D.str [c])) [97, 98, 99] []]
  · rcases isPl_by ha with rfl | rfl | rfl <;> rcases isPl_by hb with rfl | rfl | rfl <;> first | (exact absurd rfl hn) | simp
  · intro c hc
    rw [lcF_is]
    simp [deqF_is]
    by_cases q1 : c = a
    · subst q1
      simp
    · by_cases q2 : c = b
      · subst q2
        simp
      · have q1' : ¬ a = c := fun z => q1 z.symm
        have q2' : ¬ b = c := fun z => q2 z.symm
        simp [q1, q2, q1', q2']
theorem price_of_ok (n : Nat) (st : Store) (rs : Rows) (w : List Nat) (m : Mv) (a : Nat) (x : Int) (hr : rs.all goodRow = true) (hr2 : rs.length ≤ 60) (hw : w.length = rs.length) (ho : okWord w = true) (g : GoodMv rs w m a x) : run prog (n + 4) f_price_of [yardD rs, .str w, mvD m] st = .ok (.all, .int x) st := by
  rw [run_f at_price_of rfl]
  have ha := g.pla ho
  have lt := g.lt
  have wl : w.length ≤ maxLen := by unfold maxLen; omega
  have q4 : min (m.1 + 1) w.length = m.1 + 1 := by omega
  have rl : (cut w (m.1 + 1) w.length).length ≤ maxLen := by unfold cut; simp; omega
  have e1 := g.rest ho
  have e2 := third_of_ok (n + 2) st a m.2 ha g.pl g.ne
  have e3 := price_ok n st rs m.1 a m.2 hr (by omega) ha g.pl g.ne
  rw [g.pr] at e3
  have e4 : (w.length - (m.1 + 1) : Nat) ≤ maxLen ∧ ((w.length - (m.1 + 1) : Nat) : Int) < 1000000 ∧ -1000000 < ((w.length - (m.1 + 1) : Nat) : Int) := by unfold maxLen; omega
  have two : 2 ≤ maxLen := by decide
  have ne : ¬ a = m.2 := g.ne
  obtain ⟨_, h⟩ := List.getElem?_eq_some_iff.mp g.here
  simp only [priceD] at e3
  generalize hd : w.length - (m.1 + 1) = d at *
  simp [b_price_of, mvD, flatO_tup, wl, lt, h, ne, q4, e1, e2, e3, e4, rep_one, two]
theorem set_down_ok (n : Nat) (st : Store) (w : List Nat) (m : Mv) (hm : m.1 < w.length) (hw : w.length ≤ 60) : run prog (n + 1) f_set_down [.str w, mvD m] st = .ok (.all, .str (stp w m)) st := by
  rw [run_f at_set_down rfl]
  have wl : w.length ≤ maxLen := by unfold maxLen; omega
  have q3 : min m.1 w.length = m.1 := by omega
  have q4 : min (m.1 + 1) w.length = m.1 + 1 := by omega
  have c1 : (cut w 0 m.1).length = m.1 := by unfold cut; simp; omega
  have c2 : (cut w (m.1 + 1) w.length).length = w.length - (m.1 + 1) := by unfold cut; simp
  have e1 : m.1 + 1 ≤ maxLen := by omega
  have e2 : m.1 + 1 + (w.length - (m.1 + 1)) ≤ maxLen := by omega
  have e3 := cut_stp hm
  simp [b_set_down, mvD, flatO_tup, wl, q3, q4, c1, c2, e1, e2, e3]
theorem is_move_ok (n : Nat) (st : Store) (rs : Rows) (m : Mv) (hr2 : rs.length ≤ 60) (hm : m.1 < rs.length) (hp : isPl m.2 = true) : run prog (n + 2) f_is_move [yardD rs, mvD m] st = .ok (.all, .bl true) st := by
  rw [run_f at_is_move rfl]
  have e1 : (rs.length : Int) < 1000000000 := by omega
  have h : (m.1 : Int) < (rs.length : Int) := by omega
  simp [b_is_move, mvD, flatO_tup, is_integer_int, yard_len, e1, h, hm, is_place_ok n st m.2 hp]

end PD.k11
namespace PD.k11
open PD
/-! ### the law's own moves -/
theorem law_price_ok (n : Nat) (st : Store) (rs : Rows) (k a b : Nat) (hr : rs.all goodRow = true) (hk : k < rs.length) (ha : isPl a = true) (hb : isPl b = true) (hn : a ≠ b) : run prog (n + 1) f__law_price [rowsD rs, .int k, .str [a], .str [b]] st = .ok (.all, priceD (prc rs k a b)) st := by
  rw [run_f at__law_price rfl]
  obtain ⟨r, h1, h2, h3⟩ := prc_get hr hk ha hb hn
  obtain ⟨_, h1'⟩ := List.getElem?_eq_some_iff.mp h1
  obtain ⟨_, h3'⟩ := List.getElem?_eq_some_iff.mp h3
  clear h3
  generalize prc rs k a b = p at *
  have w := wayI_lt ha hb hn
  simp [b__law_price, way_index ha hb hn, rowsD, rowD, hk, h1', h2, h3', w, maxLen]
  cases p <;> simp [priceD]
theorem law_behind_ok (n : Nat) (st : Store) (w : List Nat) (m : Mv) (hm : m.1 < w.length) (hw : w.length ≤ 60) : run prog (n + 1) f__law_behind [.str w, mvD m] st = .ok (.all, .str (stp w m)) st := by
  rw [run_f at__law_behind rfl]
  have wl : w.length ≤ maxLen := by unfold maxLen; omega
  have q3 : min m.1 w.length = m.1 := by omega
  have q4 : min (m.1 + 1) w.length = m.1 + 1 := by omega
  have c1 : (cut w 0 m.1).length = m.1 := by unfold cut; simp; omega
  have c2 : (cut w (m.1 + 1) w.length).length = w.length - (m.1 + 1) := by unfold cut; simp
  have e1 : m.1 + 1 ≤ maxLen := by omega
  have e2 : m.1 + 1 + (w.length - (m.1 + 1)) ≤ maxLen := by omega
  have e3 := cut_stp hm
  simp [b__law_behind, mvD, flatO_tup, wl, q3, q4, c1, c2, e1, e2, e3]

end PD.k11
namespace PD.k11
open PD
/-! ### the allowed moves, all of them -/
/-- what the law's own moves are -/
def mpD (p : Mv × Int) : D := .tup [mvD p.1, .int p.2]
theorem flat_mp {l : List (Mv × Int)} : flatL (l.map mpD) = true := flatL_map fun _ => rfl
theorem price_of_is (n : Nat) (st : Store) (rs : Rows) (w : List Nat) (m : Mv) (hr : rs.all goodRow = true) (hr2 : rs.length ≤ 60) (hw : w.length = rs.length) (ho : okWord w = true) (lt : m.1 < w.length) (hp : isPl m.2 = true) : run prog (n + 4) f_price_of [yardD rs, .str w, mvD m] st = .ok (.all, priceD (mvP rs w m)) st := by
  rw [run_f at_price_of rfl]
  have hh : w[m.1]? = some w[m.1] := List.getElem?_eq_getElem lt
  have ha : isPl w[m.1] = true := List.all_eq_true.mp ho _ (List.getElem_mem lt)
  have hm : mvP rs w m = if w[m.1] ≠ m.2 ∧ Clear (w.drop (m.1 + 1)) w[m.1] m.2 then prc rs m.1 w[m.1] m.2 else none := by
    unfold mvP
    rw [hh]
  rw [hm]
  generalize ea : w[m.1] = a at *
  have wl : w.length ≤ maxLen := by unfold maxLen; omega
  have q4 : min (m.1 + 1) w.length = m.1 + 1 := by omega
  have two : 2 ≤ maxLen := by decide
  by_cases ne : a = m.2
  · simp [b_price_of, mvD, flatO_tup, wl, lt, ea, ne, priceD]
  · have rl : (cut w (m.1 + 1) w.length).length ≤ maxLen := by unfold cut; simp; omega
    have e2 := third_of_ok (n + 2) st a m.2 ha hp ne
    have e4 : (w.length - (m.1 + 1) : Nat) ≤ maxLen ∧ ((w.length - (m.1 + 1) : Nat) : Int) < 1000000 ∧ -1000000 < ((w.length - (m.1 + 1) : Nat) : Int) := by unfold maxLen; omega
    have cl : (cut w (m.1 + 1) w.length).length = w.length - (m.1 + 1) := by unfold cut; simp
    by_cases q : Clear (w.drop (m.1 + 1)) a m.2
    · have e3 := price_ok n st rs m.1 a m.2 hr (by omega) ha hp ne
      have e1 := (clear_rep ho ha hp ne).mp q
      generalize prc rs m.1 a m.2 = pp at *
      generalize hd : w.length - (m.1 + 1) = d at *
      simp [b_price_of, mvD, flatO_tup, wl, lt, ea, ne, q, q4, e1, e2, e3, e4, rep_one, two]
    · have e1 : ¬ cut w (m.1 + 1) w.length = List.replicate (w.length - (m.1 + 1)) (294 - a - m.2) := fun z => q ((clear_rep ho ha hp ne).mpr z)
      generalize hu : cut w (m.1 + 1) w.length = u at *
      generalize hd : w.length - (m.1 + 1) = d at *
      simp [b_price_of, mvD, flatO_tup, wl, lt, ea, ne, q, q4, hu, e1, e2, e4, cl, rl, rep_one, two, priceD]
theorem allowed_ok (n : Nat) (st : Store) (rs : Rows) (w : List Nat) (hr : rs.all goodRow = true) (hr2 : rs.length ≤ 60) (hw : w.length = rs.length) (ho : okWord w = true) : run prog (n + 5) f_allowed [yardD rs, .str w] st = .ok (.all, .lst (mvsD (alw rs w))) st := by
  apply Ok.eq
  refine fn_in at_allowed rfl rfl ?_
  simp only [b_allowed]
  have h1 : (rs.length : Int) < 1000000000 := by omega
  have pl := prs_len w.length
  have em : maxLen = 1000000 := rfl
  rw [Rest_cons]
  simp [need_arrangement_ok (n + 1) st rs w (by omega) hw ho]
  rw [Rest_cons]
  simp [yard_len, h1, small_nat (n := rs.length) (by omega), rangeD_nat]
  rw [gather2_pure (fun k : Nat => D.int (k : Int)) (fun c : Nat => D.str [c]) (fun _ => [97, 98, 99]) (fun k => [some (yardD rs), some (.str w), none, some (.int (k : Int)), none, none]) (fun k c => some (mvD (k, c))) 3 (List.range rs.length) [] (by simp; omega)]
  rotate_left
  · intro k hk
    refine ⟨by simp, ?_, fun c hc => ?_⟩
    · rw [lcG_is]
      simp
    · rw [lcF_is]
      simp [mvD]
  rw [← hw, prs_map]
  simp [newO_flat (xs := (prs w.length).map mvD) (flatL_map fun _ => flat_mv)]
  rw [Rest_cons]
  simp [show ¬ maxLen < (prs w.length).length by omega]
  rw [gather_pure mvD (fun m => (mvP rs w m).map fun _ => mvD m) (prs w.length) []]
  · rw [prs_fm]
    simp
  · intro m hm
    obtain ⟨m1, m2⟩ := prs_mem hm
    rw [lcF_is]
    simp [price_of_is n st rs w m hr hr2 hw ho m1 m2]
    cases mvP rs w m <;> simp [priceD]
theorem law_moves_eq (n : Nat) (st : Store) (rs : Rows) (w : List Nat) (hr : rs.all goodRow = true) (hr2 : rs.length ≤ 60) (hw : w.length = rs.length) (ho : okWord w = true) : run prog (n + 2) f__law_moves [rowsD rs, .str w] st = .ok (.all, .lst ((alw rs w).map mpD)) st := by
  apply Ok.eq
  refine fn_in at__law_moves rfl rfl ?_
  have wl : w.length ≤ maxLen := by unfold maxLen; omega
  have em : maxLen = 1000000 := rfl
  simp only [b__law_moves]
  rw [Rest_cons]
  simp [putAll]
  rw [show (D.dic [] []) = topsD [] from rfl, Rest_cons]
  refine Ok.bind (Q' := fun fl st' => ∃ (s3 : Option VD) (t : Tops), fl = .next [some (.no, rowsD rs), some (.all, .str w), some (.all, topsD t), s3, none, none, none] ∧ TopsAt w w.length t ∧ (t.map Prod.fst).Nodup ∧ st' = st) ?_ ?_
  · simp [wl, small_nat (n := w.length) (by omega), rangeD_nat]
    refine for_list (fun k : Nat => D.int (k : Int)) (fun d l ρ st' => ∃ (s3 : Option VD) (t : Tops), d ++ l = List.range w.length ∧ TopsAt w d.length t ∧ (t.map Prod.fst).Nodup ∧ st' = st ∧ ρ = [some (.no, rowsD rs), some (.all, .str w), some (.all, topsD t), s3, none, none, none]) ?_ ?_ (List.range w.length) [] _ _ ⟨_, [], rfl, .nil, by simp, rfl, rfl⟩
    · rintro d i l ρ st' ⟨s3, t, hd, ht, hk, rfl, rfl⟩
      refine ⟨_, rfl, ?_⟩
      have hi : i = d.length ∧ d.length < w.length := by
        have h1 := congrArg List.length hd
        have h2 := congrArg (fun l => l[d.length]?) hd
        simp at h1 h2
        rw [List.getElem?_range (by omega)] at h2
        injection h2 with h2
        exact ⟨h2, by omega⟩
      obtain ⟨rfl, lt⟩ := hi
      have hc : w[d.length]? = some w[d.length] := List.getElem?_eq_getElem lt
      have b1 : t.length < maxLen := by have := ht.len; omega
      have fl : flatL (t.map fun p : Nat × Nat => D.int (p.2 : Int)) = true := flatL_map fun _ => rfl
      have e := putD_tops w[d.length] d.length t
      rw [Rest_cons]
      unfold topsD
      simp [b1, fl, wl, lt]
      exact ⟨by simpa using hd, _, putT w[d.length] d.length t, ht.put hc, putT_keys hk, by unfold topsD at e; exact D.dic.inj e, rfl⟩
    · rintro d ρ st' ⟨s3, t, hd, ht, hk, rfl, rfl⟩
      have : d.length = w.length := by
        have := congrArg List.length hd
        simpa using this
      rw [this] at ht
      exact ⟨s3, t, rfl, ht, hk, rfl⟩
  rintro _ st ⟨s3, t, rfl, ht, hk, rfl⟩
  have tl : t.length ≤ 60 := by have := ht.len; omega
  rw [goOn_next, Rest_cons]
  simp
  rw [show ([] : List D) = (([] : List Nat).flatMap (mvs1 rs w)).map mpD from rfl, Rest_cons]
  refine Ok.bind (Q' := fun fl st' => ∃ (s3 s5 s6 : Option VD), fl = .next [some (.no, rowsD rs), some (.all, .str w), some (.no, topsD t), s3, some (.all, .lst ((alw rs w).map mpD)), s5, s6] ∧ st' = st) ?_ ?_
  · simp only [es_for, ev_itE, ev_sv, ev_var, view_cons, view_nil, List.getElem?_cons_succ, List.getElem?_cons_zero, Option.map_some, varR_some, bind_ok, sv_tops (l := t) (by omega), of_some, seq_lst, exV_itE, exV_sv, exV_var, frz_cons, frz_nil, frz1_succ, frz1_some, flatO_tops]
    rw [tops_sorted ht hk, List.map_map, alw_tops]
    have hT : ∀ k ∈ (List.range w.length).filter (isTop w), isTop w k = true ∧ k < w.length := fun k hk => ⟨(List.mem_filter.mp hk).2, List.mem_range.mp (List.mem_filter.mp hk).1⟩
    have hL : ((List.range w.length).filter (isTop w)).length ≤ 60 := Nat.le_trans (List.length_filter_le _ _) (by rw [List.length_range]; omega)
    generalize (List.range w.length).filter (isTop w) = T at hT hL ⊢
    refine for_list (fun k : Nat => D.int (k : Int)) (fun d l ρ st' => ∃ (s3 s5 s6 : Option VD), d ++ l = T ∧ st' = st ∧ ρ = [some (.no, rowsD rs), some (.all, .str w), some (.no, topsD t), s3, some (.all, .lst ((d.flatMap (mvs1 rs w)).map mpD)), s5, s6]) ?_ ?_ T [] _ _ ⟨_, _, _, rfl, rfl, rfl⟩
    · rintro d k l ρ st' ⟨s3, s5, s6, hd, rfl, rfl⟩
      refine ⟨_, rfl, ?_⟩
      obtain ⟨tk, lt⟩ := hT k (by rw [← hd]; simp)
      obtain ⟨a, ha⟩ := isTop_at tk
      obtain ⟨_, hk'⟩ := List.getElem?_eq_some_iff.mp ha
      have pa : isPl a = true := List.all_eq_true.mp ho _ (List.mem_of_getElem? ha)
      have dl : (d.flatMap (mvs1 rs w)).length ≤ 177 := by
        have h1 := flatMap_len (mvs1 rs w) 3 (mvs1_len rs w) d
        have h2 := congrArg List.length hd
        simp at h2
        omega
      generalize hF : d.flatMap (mvs1 rs w) = F at dl ⊢
      simp only [put_succ, put_zero, flatO_int]
      rw [Rest_cons]
      refine Ok.bind (Q' := fun fl st2 => ∃ (s5 s6 : Option VD), fl = .next [some (.no, rowsD rs), some (.all, .str w), some (.no, topsD t), some (.all, .int (k : Int)), some (.all, .lst ((F ++ mvs1 rs w k).map mpD)), s5, s6] ∧ st2 = st') ?_ ?_
      · simp only [es_for, ev_itE, ev_lit, bind_ok, seq_str, of_some, exV_itE, exV_lit, frz_nil]
        refine for_list (fun c : Nat => D.str [c]) (fun d2 l2 ρ st2 => ∃ (s5 s6 : Option VD), d2 ++ l2 = [97, 98, 99] ∧ st2 = st' ∧ ρ = [some (.no, rowsD rs), some (.all, .str w), some (.no, topsD t), some (.all, .int (k : Int)), some (.all, .lst ((F ++ d2.filterMap fun c => (mvP rs w (k, c)).map fun x => ((k, c), x)).map mpD)), s5, s6]) ?_ ?_ [97, 98, 99] [] _ _ ⟨s5, s6, rfl, rfl, by simp⟩
        · rintro d2 c l2 ρ st2 ⟨s5, s6, hd2, rfl, rfl⟩
          refine ⟨_, rfl, ?_⟩
          have pc : isPl c = true := isPl_mem.mp (by rw [← hd2]; simp)
          have d2l : d2.length ≤ 2 := by
            have := congrArg List.length hd2
            simp at this
            omega
          have d3l : (d2.filterMap fun c => (mvP rs w (k, c)).map fun x => ((k, c), x)).length ≤ 2 := Nat.le_trans (List.length_filterMap_le _ _) d2l
          have ts := top_step (rs := rs) ht ha tk (c := c)
          rw [List.filterMap_append, List.filterMap_cons, List.filterMap_nil, ts]
          generalize hE : d2.filterMap (fun c => (mvP rs w (k, c)).map fun x => ((k, c), x)) = E at d3l ⊢
          have fE : flatL ((F ++ E).map mpD) = true := flat_mp
          have bl : (F ++ E).length ≤ 179 := by rw [List.length_append]; omega
          rw [Rest_cons]
          by_cases z1 : c = a
          · rw [if_neg fun z => z.1 z1]
            simp [wl, lt, hk', z1]
            exact by simpa [z1] using hd2
          · by_cases z2 : topI c t < (k : Int)
            · rw [if_pos ⟨z1, z2⟩]
              have z3 : ¬ a = c := fun z => z1 z.symm
              have p1 := law_price_ok n st2 rs k a c hr (by omega) pa pc z3
              generalize hG : F ++ E = G at fE bl ⊢
              have cz : (G.map mpD).length ≤ 179 := by simpa using bl
              cases q : prc rs k a c with
              | none =>
                rw [q] at p1
                simp only [priceD] at p1
                simp [wl, lt, hk', z1, z2, p1, rep, newO_flat fE, show G.length ≤ maxLen by omega, ← List.append_assoc, hG]
                exact by simpa using hd2
              | some x =>
                rw [q] at p1
                simp only [priceD] at p1
                have fm : flatL (G.map mpD ++ [D.tup [D.tup [D.int (k : Int), D.str [c]], D.int x]]) = true := by
                  have := flat_mp (l := G ++ [((k, c), x)])
                  simpa [mpD, mvD] using this
                simp [wl, lt, hk', z1, z2, p1, rep_one, newO_flat fm, show G.length + 1 ≤ maxLen by omega, show 1 ≤ maxLen by omega, ← List.append_assoc, hG]
                exact ⟨by simpa using hd2, by simp [mpD, mvD]⟩
            · rw [if_neg fun z => z2 z.2]
              simp [wl, lt, hk', z1, z2]
              exact by simpa using hd2
        · rintro d2 ρ st2 ⟨s5, s6, hd2, rfl, rfl⟩
          rw [List.append_nil] at hd2
          subst hd2
          exact ⟨s5, s6, rfl, rfl⟩
      rintro _ st2 ⟨s5, s6, rfl, rfl⟩
      simp only [goOn_next, Rest_nil, Ok_ok, turnQ_next]
      refine ⟨some (.all, .int (k : Int)), s5, s6, by simpa using hd, by trivial, ?_⟩
      rw [List.flatMap_append, List.flatMap_singleton, hF]
    · rintro d ρ st' ⟨s3, s5, s6, hd, rfl, rfl⟩
      rw [List.append_nil] at hd
      subst hd
      exact ⟨_, _, _, rfl, rfl⟩
  rintro _ st ⟨s3, s5, s6, rfl, rfl⟩
  rw [goOn_next, Rest_cons]
  simp
/-! ### single moves -/
theorem need_move_ok (n : Nat) (st : Store) (rs : Rows) (w : List Nat) (m : Mv) (x : Int) (hr : rs.all goodRow = true) (hr2 : rs.length ≤ 60) (hw : w.length = rs.length) (ho : okWord w = true) (hp : isPl m.2 = true) (g : mvP rs w m = some x) : run prog (n + 5) f_need_move [yardD rs, .str w, mvD m] st = .ok (.all, .non) st := by
  rw [run_f at_need_move rfl]
  have lt := mvP_lt g
  have e := price_of_is n st rs w m hr hr2 hw ho lt hp
  rw [g] at e
  simp [b_need_move, need_arrangement_ok (n + 1) st rs w (by omega) hw ho, is_move_ok (n + 2) st rs m hr2 (by omega) hp, e, priceD]
theorem moved_ok (n : Nat) (st : Store) (rs : Rows) (w : List Nat) (m : Mv) (x : Int) (hr : rs.all goodRow = true) (hr2 : rs.length ≤ 60) (hw : w.length = rs.length) (ho : okWord w = true) (hp : isPl m.2 = true) (g : mvP rs w m = some x) : run prog (n + 6) f_moved [yardD rs, .str w, mvD m] st = .ok (.all, .str (stp w m)) st := by
  rw [run_f at_moved rfl]
  have lt := mvP_lt g
  simp [b_moved, need_move_ok n st rs w m x hr hr2 hw ho hp g, set_down_ok (n + 4) st w m lt (by omega)]
theorem move_cost_ok (n : Nat) (st : Store) (rs : Rows) (w : List Nat) (m : Mv) (x : Int) (hr : rs.all goodRow = true) (hr2 : rs.length ≤ 60) (hw : w.length = rs.length) (ho : okWord w = true) (hp : isPl m.2 = true) (g : mvP rs w m = some x) : run prog (n + 6) f_move_cost [yardD rs, .str w, mvD m] st = .ok (.all, .int x) st := by
  rw [run_f at_move_cost rfl]
  have lt := mvP_lt g
  have e := price_of_is (n + 1) st rs w m hr hr2 hw ho lt hp
  rw [g] at e
  simp [b_move_cost, need_move_ok n st rs w m x hr hr2 hw ho hp g, e, priceD]
theorem way_back_ok (n : Nat) (st : Store) (rs : Rows) (w : List Nat) (m : Mv) (a : Nat) (x : Int) (hr : rs.all goodRow = true) (hr2 : rs.length ≤ 60) (hw : w.length = rs.length) (ho : okWord w = true) (g : GoodMv rs w m a x) : run prog (n + 6) f_way_back [yardD rs, .str w, mvD m] st = .ok (.all, mvD (m.1, a)) st := by
  rw [run_f at_way_back rfl]
  have lt := g.lt
  obtain ⟨_, h⟩ := List.getElem?_eq_some_iff.mp g.here
  have wl : w.length ≤ maxLen := by unfold maxLen; omega
  simp [b_way_back, need_move_ok n st rs w m x hr hr2 hw ho g.pl (mvP_good g), wl, lt, h]
  simp [mvD]

end PD.k11
namespace PD.k11
open PD
/-! ### the law -/
theorem law_right_ok (n : Nat) (st : Store) (rs : Rows) (w : List Nat) (hr : rs.all goodRow = true) (hr2 : rs.length ≤ 60) (hw : w.length = rs.length) (ho : okWord w = true) : run prog (n + 8) f__law_right [yardD rs, rowsD rs, .str w] st = .ok (.all, .bl true) st := by
  apply Ok.eq
  refine fn_in at__law_right rfl rfl ?_
  have em : maxLen = 1000000 := rfl
  have l3 := alw_len3 (rs := rs) ho
  have hL : ∀ p ∈ alw rs w, ∃ a, GoodMv rs w p.1 a p.2 := alw_goods
  have dM : ∀ l, deqN true 30 (.lst (mvsD l)) (.lst (mvsD l)) = some true := fun l => deqN_refl 30 _ eqTree_mvs
  have nel : ∀ x y, cmpD .ne (.lst x) (.lst y) = (deqN true 30 (.lst x) (.lst y)).map (!·) := fun _ _ => rfl
  have eql : ∀ x y, cmpD .eq (.lst x) (.lst y) = deqN true 30 (.lst x) (.lst y) := fun _ _ => rfl
  obtain ⟨t, ht⟩ := rpD_mvs (l := alw rs w) (fun p hp => by obtain ⟨a, g⟩ := hL p hp; have := g.lt; exact ⟨by omega, g.pl⟩) (by omega)
  have k1 := law_moves_eq (n + 5) st rs w hr hr2 hw ho
  have k2 := allowed_ok (n + 2) st rs w hr hr2 hw ho
  simp only [b__law_right]
  generalize hE : alw rs w = L at *
  rw [Rest_cons]
  simp [k1, newO_flat (flat_mp (l := L))]
  rw [Rest_cons]
  simp [k2]
  have g3 : ∀ (env : Env) (r : Rho), r.length = 11 → gather (lcF (.tp [5, 6]) r (evE env (.lit (.bl true))) (evE env (.var 5))) (L.map mpD) [] .all st = .ok (.all, .lst (mvsD L)) st := by
    intro env r hr11
    rw [gather_pure mpD (fun p => some (mvD p.1)) L []]
    · simp [mvsD, List.filterMap_eq_map']
    · intro p hp
      rw [lcF_is]
      simp [mpD, bindTg_tp, hr11]
  rw [Rest_cons]
  simp [g3, ht, show ¬ maxLen < L.length by omega, show ¬ (3 : Int) < (L.length : Int) by omega]
  have g4 : ∀ (env : Env) (r : Rho), env.kc = prog.kc → r.length = 11 → gather (lcF (.nm 5) r (evE env (.notE (.isi (.var 5) [.tuple]))) (evE env (.var 5))) (mvsD L) [] .all st = .ok (.all, .lst []) st := by
    intro env r hk hr11
    unfold mvsD
    rw [gather_pure (fun p : Mv × Int => mvD p.1) (fun _ => none) L []]
    · simp
    · intro p hp
      rw [lcF_is]
      simp [hr11, mvD]
  rw [Rest_cons]
  simp [g4, show ¬ maxLen < L.length by omega]
  rw [Rest_cons]
  simp
  rw [Rest_cons]
  refine Ok.bind (Q' := fun fl st' => ∃ (s5 s6 s7 s8 s9 s10 : Option VD), fl = .next [some (.no, yardD rs), some (.no, rowsD rs), some (.all, .str w), some (.no, .lst (L.map mpD)), some (.all, .lst []), s5, s6, s7, s8, s9, s10] ∧ st' = st) ?_ ?_
  · simp
    refine for_list mpD (fun d l ρ st' => ∃ (s5 s6 s7 s8 s9 s10 : Option VD), (∀ p ∈ l, p ∈ L) ∧ st' = st ∧ ρ = [some (.no, yardD rs), some (.no, rowsD rs), some (.all, .str w), some (.no, .lst (L.map mpD)), some (.all, .lst []), s5, s6, s7, s8, s9, s10]) ?_ ?_ L [] _ _ ⟨_, _, _, _, _, _, fun _ h => h, rfl, rfl⟩
    · rintro d p l ρ st' ⟨s5, s6, s7, s8, s9, s10, hl, rfl, rfl⟩
      obtain ⟨a, g⟩ := hL p (hl p (by simp))
      have hl' : ∀ q ∈ l, q ∈ L := fun q hq => hl q (by simp [hq])
      obtain ⟨⟨k, c⟩, x⟩ := p
      have mp := mvP_good g
      have lt : k < w.length := g.lt
      have pa : isPl a = true := g.pla ho
      have pc : isPl c = true := g.pl
      have wl : w.length ≤ maxLen := by omega
      obtain ⟨_, hk⟩ := List.getElem?_eq_some_iff.mp g.here
      have hk : w[k] = a := hk
      refine ⟨_, rfl, ?_⟩
      simp
      rw [Rest_cons]
      simp [law_behind_ok (n + 6) st' w (k, c) lt (by omega)]
      have c1 := moved_ok (n + 1) st' rs w (k, c) x hr hr2 hw ho pc mp
      have c2 := move_cost_ok (n + 1) st' rs w (k, c) x hr hr2 hw ho pc mp
      have xl := prc_lt hr g.pr
      obtain ⟨t2, ht2⟩ : ∃ t, rpD (.int x) = some t := rpD_int (Nat.lt_of_lt_of_le (m := 2 ^ 200) (by omega) (Nat.pow_le_pow_right (by omega) (by omega)))
      rw [Rest_cons]
      simp [c1, c2, ht2]
      have c3 := way_back_ok (n + 1) st' rs w (k, c) a x hr hr2 hw ho g
      have tw : (D.tup [D.int (k : Int), D.str [a]]) = mvD (k, a) := rfl
      rw [Rest_cons]
      simp [c3, wl, lt, hk, tw]
      have hw' : (stp w (k, c)).length = rs.length := by rw [stp_len]; exact hw
      have ho' := stp_ok (m := (k, c)) ho pc
      have c4 := allowed_ok (n + 2) st' rs (stp w (k, c)) hr hr2 hw' ho'
      have c5 := mvP_back g
      have c6 := alw_only (rs := rs) (w := stp w (k, c)) (m := (k, a)) pa
      have c7 := alw_len180 (rs := rs) (w := stp w (k, c)) (by omega)
      rw [c5] at c6
      have g8 : ∀ (env : Env) (r : Rho), r.length = 11 → r[2]? = some (some (.str w)) → r[5]? = some (some (mvD (k, c))) → gather (lcF (.nm 10) r (evE env (.cmp .eq (.var 10) (.tup (.cons (.sub (.var 5) (.lit (.int 0))) (.cons (.sub (.var 2) (.sub (.var 5) (.lit (.int 0)))) .nil))))) (evE env (.var 10))) (mvsD (alw rs (stp w (k, c)))) [] .all st' = .ok (.all, .lst (mvsD ((prc rs k c a).map fun x => ((k, a), x)).toList)) st' := by
        intro env r h11 h2 h5
        conv => lhs; arg 2; unfold mvsD
        rw [gather_pure (fun p : Mv × Int => mvD p.1) (fun p => if decide (p.1 = (k, a)) = true then some (mvD p.1) else none) (alw rs (stp w (k, c))) []]
        · rw [filter_fm (fun p : Mv × Int => decide (p.1 = (k, a))) (fun p => mvD p.1), c6]
          simp [mvsD]
        · intro p hp
          rw [lcF_is]
          obtain ⟨_, h2'⟩ := List.getElem?_eq_some_iff.mp h2
          obtain ⟨_, h5'⟩ := List.getElem?_eq_some_iff.mp h5
          simp [List.getElem?_set, h11, h2', h5', wl, lt, hk, tw]
          by_cases z : p.1 = (k, a) <;> simp [z]
      have lg := law_price_ok (n + 6) st' rs k c a hr (by omega) pc pa (Ne.symm g.ne)
      rw [Rest_cons]
      simp [c4, g8, show ¬ maxLen < (alw rs (stp w (k, c))).length by omega]
      cases hq : prc rs k c a with
      | none =>
        rw [hq] at lg
        rw [Rest_cons]
        simp [lg, wl, lt, hk, priceD]
        rw [Rest_cons]
        simp [mvsD]
        exact fun a b z h => hl' _ h
      | some y =>
        rw [hq] at lg
        rw [Rest_cons]
        simp [lg, wl, lt, hk, priceD]
        rw [Rest_cons]
        have e1 : deqN true 30 (.lst [mvD (k, a)]) (.lst [mvD (k, a)]) = some true := dM [((k, a), y)]
        simp [c3, e1, nel, -cmp_nel, -deq_ll, mvsD]
        exact fun a b z h => hl' _ h
    · rintro d ρ st' ⟨s5, s6, s7, s8, s9, s10, hl, rfl, rfl⟩
      simp
  rintro _ st ⟨s5, s6, s7, s8, s9, s10, rfl, rfl⟩
  rw [goOn_next, Rest_cons]
  simp [g3, k2, show ¬ maxLen < L.length by omega, dM, eql, -cmp_eql, -deq_ll]
theorem law_turns_right_ok (n : Nat) (st : Store) (rs ro : Rows) (w : List Nat) (hr : rs.all goodRow = true) (hr2 : rs.length ≤ 60) (hw : w.length = rs.length) (hro : ro.all goodRow = true) (hrl : ro.length = rs.length) (ho : okWord w = true) : run prog (n + 8) f__law_turns_right [yardD rs, rowsD rs, yardD ro, rowsD ro, .str w] st = .ok (.all, .bl true) st := by
  apply Ok.eq
  refine fn_in at__law_turns_right rfl rfl ?_
  have em : maxLen = 1000000 := rfl
  have hL : ∀ p ∈ alw rs w, ∃ a, GoodMv rs w p.1 a p.2 := alw_goods
  have k1 := law_moves_eq (n + 5) st rs w hr hr2 hw ho
  have k3 := law_moves_eq (n + 5) st ro w hro (by omega) (by omega) ho
  have k4 := allowed_ok (n + 2) st ro w hro (by omega) (by omega) ho
  have l180 := alw_len180 (rs := ro) (w := w) (by omega)
  simp only [b__law_turns_right]
  generalize hE : alw rs w = L at *
  rw [Rest_cons]
  refine Ok.bind (Q' := fun fl st' => ∃ (s5 s6 s7 s8 s9 : Option VD), fl = .next [some (.no, yardD rs), some (.no, rowsD rs), some (.no, yardD ro), some (.no, rowsD ro), some (.all, .str w), s5, s6, s7, s8, s9] ∧ st' = st) ?_ ?_
  · simp [k1]
    refine for_list mpD (fun d l ρ st' => ∃ (s5 s6 s7 s8 s9 : Option VD), (∀ p ∈ l, p ∈ L) ∧ st' = st ∧ ρ = [some (.no, yardD rs), some (.no, rowsD rs), some (.no, yardD ro), some (.no, rowsD ro), some (.all, .str w), s5, s6, s7, s8, s9]) ?_ ?_ L [] _ _ ⟨_, _, _, _, _, fun _ h => h, rfl, rfl⟩
    · rintro d p l ρ st' ⟨s5, s6, s7, s8, s9, hl, rfl, rfl⟩
      obtain ⟨a, g⟩ := hL p (hl p (by simp))
      have hl' : ∀ q ∈ l, q ∈ L := fun q hq => hl q (by simp [hq])
      obtain ⟨m, x⟩ := p
      have mp := mvP_good g
      have pc : isPl m.2 = true := g.pl
      refine ⟨_, rfl, ?_⟩
      simp
      have c2 := move_cost_ok (n + 1) st' rs w m x hr hr2 hw ho pc mp
      have c6 := alw_only (rs := ro) (w := w) (m := m) pc
      have c8 := alw_in (rs := ro) (w := w) (m := m) pc
      have g8 : ∀ (env : Env) (r : Rho), r.length = 10 → r[5]? = some (some (mvD m)) → gather (lcF (.tp [8, 9]) r (evE env (.cmp .eq (.var 8) (.var 5))) (evE env (.var 9))) ((alw ro w).map mpD) [] .all st' = .ok (.all, .lst ((mvP ro w m).map D.int).toList) st' := by
        intro env r h11 h5
        rw [gather_pure mpD (fun p => if decide (p.1 = m) = true then some (.int p.2) else none) (alw ro w) []]
        · rw [filter_fm (fun p : Mv × Int => decide (p.1 = m)) (fun p => D.int p.2), c6]
          cases mvP ro w m <;> simp
        · intro p hp
          rw [lcF_is]
          obtain ⟨_, h5'⟩ := List.getElem?_eq_some_iff.mp h5
          simp [bindTg_tp, mpD, List.getElem?_set, h11, h5']
          by_cases z : p.1 = m <;> simp [z]
      rw [Rest_cons]
      simp [k3, g8, show ¬ maxLen < (alw ro w).length by omega]
      have c9 : anyO ((mvsD (alw ro w)).map (deqF · (mvD m))) = some (mvP ro w m).isSome := by
        rw [in_mvs]
        congr 1
        rw [Bool.eq_iff_iff, decide_eq_true_iff]
        exact c8
      cases hq : mvP ro w m with
      | none =>
        rw [hq] at c9
        rw [Rest_cons]
        simp
        rw [Rest_cons]
        simp [k4, c9, c2]
        exact fun a b z h => hl' _ h
      | some y =>
        rw [hq] at c9
        have c3 := move_cost_ok (n + 1) st' ro w m y hro (by omega) (by omega) ho pc hq
        rw [Rest_cons]
        simp [c3]
        rw [Rest_cons]
        simp [k4, c9, c2]
        exact fun a b z h => hl' _ h
    · rintro d ρ st' ⟨s5, s6, s7, s8, s9, hl, rfl, rfl⟩
      simp
  rintro _ st ⟨s5, s6, s7, s8, s9, rfl, rfl⟩
  rw [goOn_next, Rest_cons]
  simp
theorem free_rows (n : Nat) (st : Store) (r : Rho) (size : Nat) (hr : 11 < r.length) : gather (lcF (.nm 11) r (evE (prog.env n) (.lit (.bl true))) (evE (prog.env n) (.bin .mul (.lst (.cons (.lit (.int 1)) .nil)) (.lit (.int 6))))) ((List.range size).map fun k : Nat => D.int (k : Int)) [] .all st = .ok (.all, rowsD (freeR size)) st := by
  rw [gather_pure (fun k : Nat => D.int (k : Int)) (fun _ => some (rowD (List.replicate 6 (some 1)))) (List.range size) []]
  · have : (List.range size).filterMap (fun _ => some (rowD (List.replicate 6 (some 1)))) = (freeR size).map rowD := by
      rw [List.filterMap_eq_map', freeR, List.map_replicate]
      exact List.eq_replicate_iff.mpr ⟨by simp, fun b hb => by obtain ⟨_, _, e⟩ := List.mem_map.mp hb; exact e.symm⟩
    rw [this]
    rfl
  · intro k hk
    rw [lcF_is]
    simp [maxLen, rep_one, newO_flat]
    rfl
theorem law_ok (n : Nat) (ns : List Int) : Ok (run prog (n + 12) f_law [.scr ns] []) fun v _ => v = (.all, .bl true) := by
  refine fn_in at_law rfl rfl ?_
  simp only [b_law]
  have em : maxLen = 1000000 := rfl
  rw [Rest_cons]
  refine Ok.bind (Q' := fun fl st' => ∃ s1 s2 s3 s4 s5 s6 s7 s8 s9 s10 s11 : Option VD, fl = .next [some (.no, .scr ns), s1, s2, s3, s4, s5, s6, s7, s8, s9, s10, s11]) ?_ ?_
  · rw [es_for, turns_ok (ns := ns) 2 6 rfl (by omega) (by omega) (by omega), bind_ok]
    have tl := turnsN_le (lo := 2) (hi := 6) (l := ns.length) (by omega) (by omega)
    refine for_list (fun k : Nat => D.int (k : Int)) (fun d l ρ st' => ∃ s1 s2 s3 s4 s5 s6 s7 s8 s9 s10 s11 : Option VD, (∀ k ∈ l, k < 100) ∧ ρ = [some (.no, .scr ns), s1, s2, s3, s4, s5, s6, s7, s8, s9, s10, s11]) ?_ ?_ _ [] _ _ ⟨_, _, _, _, _, _, _, _, _, _, _, fun k hk => by have := List.mem_range.mp hk; omega, rfl⟩
    · rintro d k l ρ st ⟨s1, s2, s3, s4, s5, s6, s7, s8, s9, s10, s11, hl, rfl⟩
      have hk := hl k (by simp)
      refine ⟨_, rfl, ?_⟩
      simp only [put_succ, put_zero, flatO_int]
      rw [Rest_cons]
      simp [Ok_bind]
      refine Ok.mono (cell_ok (n + 10) st ns k hk) ?_
      rintro _ _ ⟨c, rfl, rfl⟩
      simp [Ok_bind]
      refine Ok.mono (box_ok (n + 10) _ c) ?_
      rintro _ st1 ⟨h, rfl, B1⟩
      simp
      rw [Rest_cons]
      refine Ok.bind (Q' := fun fl st' => ∃ size : Nat, fl = .next [some (.no, .scr ns), some (.all, .int k), some (.all, .hnd h), some (.all, .int size), s4, s5, s6, s7, s8, s9, s10, s11] ∧ 1 ≤ size ∧ size ≤ 60 ∧ BoxAt st' h 3) ?_ ?_
      · simp [Ok_bind]
        refine Ok.mono (take_ok (n + 10) h 0 3 st1 B1 (by omega) (by omega) (by omega)) ?_
        rintro _ st2 ⟨d, rfl, hd, B2⟩
        have e : d = 0 ∨ d = 1 ∨ d = 2 := by omega
        rcases e with rfl | rfl | rfl
        · simp [Ok_bind]
          refine Ok.mono (size_ok (n + 9) h 1 4 st2 B2 (by omega) (by omega) (by omega)) ?_
          rintro _ st3 ⟨s, rfl, hs1, hs2, B3⟩
          simp
          exact ⟨s, rfl, hs1, by omega, B3⟩
        · simp [Ok_bind]
          refine Ok.mono (size_ok (n + 9) h 1 12 st2 B2 (by omega) (by omega) (by omega)) ?_
          rintro _ st3 ⟨s, rfl, hs1, hs2, B3⟩
          simp
          exact ⟨s, rfl, hs1, by omega, B3⟩
        · simp [Ok_bind]
          refine Ok.mono (size_ok (n + 9) h 1 60 st2 B2 (by omega) (by omega) (by omega)) ?_
          rintro _ st3 ⟨s, rfl, hs1, hs2, B3⟩
          simp
          exact ⟨s, rfl, hs1, by omega, B3⟩
      rintro _ st2 ⟨size, rfl, hs1, hs2, B2⟩
      rw [goOn_next, Rest_cons]
      simp [Ok_bind]
      refine Ok.mono (plain_ok (n + 9) h 3 size st2 B2 (by omega) hs1 hs2) ?_
      rintro _ st3 ⟨rs, rfl, hrs, hg, B3⟩
      subst hrs
      simp
      rw [Rest_cons]
      have hf : (freeR rs.length).length = rs.length := by simp [freeR]
      have y1 := fun st => yard_ok (n + 6) st rs (goodRows_ok hg hs1 hs2)
      have y2 := fun st => yard_ok (n + 6) st (freeR rs.length) (goodRows_ok goodRow_free (by rw [hf]; exact hs1) (by rw [hf]; exact hs2))
      simp [Ok_bind, y1, y2, small_nat (n := rs.length) (by omega), rangeD_nat, show ¬ maxLen < rs.length by omega, free_rows]
      refine Ok.mono (plain_ok (n + 9) h 2003 rs.length st3 B3 (by omega) hs1 hs2) ?_
      rintro _ st4 ⟨ro, rfl, hro, hgo, B4⟩
      have y3 := fun st => yard_ok (n + 6) st ro (goodRows_ok hgo (by omega) (by omega))
      simp
      rw [Rest_cons]
      simp [y3]
      rw [Rest_cons]
      refine Ok.bind (Q' := fun fl st' => ∃ s6 s10 s11 : Option VD, fl = .next [some (.no, .scr ns), some (.all, .int k), some (.all, .hnd h), some (.all, .int rs.length), some (.no, rowsD rs), some (.all, yardD ro), s6, some (.no, yardD rs), some (.no, yardD (freeR rs.length)), some (.no, rowsD ro), s10, s11]) ?_ ?_
      · simp [Ok_bind]
        refine Ok.mono (word_ok (n + 9) h 4003 rs.length st4 B4 (by omega) hs2) ?_
        rintro _ st5 ⟨w1, rfl, hw1, ho1, B5⟩
        simp [Ok_bind]
        refine Ok.mono (word_ok (n + 9) h (4003 + rs.length) rs.length st5 B5 (by omega) hs2) ?_
        rintro _ st6 ⟨w2, rfl, hw2, ho2, B6⟩
        simp [Ok_bind]
        refine Ok.mono (take_ok (n + 10) h (4003 + rs.length + rs.length) 3 st6 B6 (by omega) (by omega) (by omega)) ?_
        rintro _ st7 ⟨d, rfl, hd, B7⟩
        have go : ∀ w3 : List Nat, w3.length = rs.length → okWord w3 = true → ∀ st s6 s10 s11, Ok (loopF (.nm 6) (evSs (prog.env (n + 11)) 100000 (.cons (.ifS (.notE (.call 32 (.cons (.var 7) (.cons (.var 4) (.cons (.var 6) .nil)))))
 (.cons (.ret (.lit (.bl false)))
 .nil)
 .nil)
 (.cons (.asg 10 (.ifE (.cmp .gt (.ls (.var 6)) (.lit (.int 1))) (.lit (.int 3)) (.lit (.int 2))))
 (.cons (.ifS (.orE (.cmp .ne (.bi .len (.cons (.call 23 (.cons (.var 8) (.cons (.var 6) .nil))) .nil)) (.var 10)) (.notE (.call 33 (.cons (.var 7) (.cons (.var 4) (.cons (.var 5) (.cons (.var 9) (.cons (.var 6) .nil))))))))
 (.cons (.ret (.lit (.bl false)))
 .nil)
 .nil)
 .nil)))) ([w1, w2, w3].map D.str) [some (.no, .scr ns), some (.all, .int k), some (.all, .hnd h), some (.all, .int rs.length), some (.no, rowsD rs), some (.all, yardD ro), s6, some (.no, yardD rs), some (.no, yardD (freeR rs.length)), some (.no, rowsD ro), s10, s11] st) fun fl st' => ∃ s6 s10 s11 : Option VD, fl = .next [some (.no, .scr ns), some (.all, .int k), some (.all, .hnd h), some (.all, .int rs.length), some (.no, rowsD rs), some (.all, yardD ro), s6, some (.no, yardD rs), some (.no, yardD (freeR rs.length)), some (.no, rowsD ro), s10, s11] := by
          intro w3 hw3 ho3 st s6 s10 s11
          refine for_list D.str (fun d l ρ st' => ∃ s6 s10 s11 : Option VD, (∀ w ∈ l, w.length = rs.length ∧ okWord w = true) ∧ ρ = [some (.no, .scr ns), some (.all, .int k), some (.all, .hnd h), some (.all, .int rs.length), some (.no, rowsD rs), some (.all, yardD ro), s6, some (.no, yardD rs), some (.no, yardD (freeR rs.length)), some (.no, rowsD ro), s10, s11]) ?_ ?_ [w1, w2, w3] [] _ _ ⟨s6, s10, s11, fun w hw => ?_, rfl⟩
          · rintro d w l ρ st ⟨s6, s10, s11, hl, rfl⟩
            obtain ⟨hw, ho⟩ := hl w (by simp)
            have hl' : ∀ w ∈ l, w.length = rs.length ∧ okWord w = true := fun q hq => hl q (by simp [hq])
            refine ⟨_, rfl, ?_⟩
            simp
            have r1 := law_right_ok (n + 3) st rs w hg hs2 hw ho
            have r2 := law_turns_right_ok (n + 3) st rs ro w hg hs2 hw hgo hro ho
            have r3 := allowed_ok (n + 6) st (freeR rs.length) w goodRow_free (by rw [hf]; exact hs2) (by rw [hf]; exact hw) ho
            have r4 := alw_free ho (show w ≠ [] from fun z => by subst z; simp at hw; omega)
            rw [hw] at r4
            rw [Rest_cons]
            simp [r1]
            have ls : lsD (.str w) = some (.all, .int (diffN (w.map fun c => [c]) : Nat)) := if_pos (by omega)
            generalize hD : diffN (w.map fun c => [c]) = dn at ls r4
            rw [Rest_cons]
            by_cases q : (1 : Int) < (dn : Int)
            · rw [if_pos q] at r4
              simp [ls, q]
              rw [Rest_cons]
              simp [r3, r4, r2]
              exact hl'
            · rw [if_neg q] at r4
              simp [ls, q]
              rw [Rest_cons]
              simp [r3, r4, r2]
              exact hl'
          · rintro d ρ st ⟨s6, s10, s11, hl, rfl⟩
            exact ⟨_, _, _, rfl⟩
          · simp at hw
            rcases hw with rfl | rfl | rfl
            · exact ⟨hw1, ho1⟩
            · exact ⟨hw2, ho2⟩
            · exact ⟨hw3, ho3⟩
        have tw : ∀ a, isPl a = true → okWord (List.replicate rs.length a) = true := fun a ha => by
          unfold okWord
          rw [List.all_replicate]
          simp [ha]
        have e4 : rs.length ≤ 1000000 ∧ (rs.length : Int) < 1000000 ∧ -1000000 < (rs.length : Int) := by omega
        have e : d = 0 ∨ d = 1 ∨ d = 2 := by omega
        rcases e with rfl | rfl | rfl
        · simp [maxLen, rep_one, e4]
          exact go _ (by simp) (tw 97 rfl) _ _ _ _
        · simp [maxLen, rep_one, e4]
          exact go _ (by simp) (tw 98 rfl) _ _ _ _
        · simp [maxLen, rep_one, e4]
          exact go _ (by simp) (tw 99 rfl) _ _ _ _
      rintro _ st5 ⟨s6, s10, s11, rfl⟩
      simp
      exact fun k hk => hl k (by simp [hk])
    · rintro d ρ st ⟨s1, s2, s3, s4, s5, s6, s7, s8, s9, s10, s11, hl, rfl⟩
      simp
  rintro _ st ⟨s1, s2, s3, s4, s5, s6, s7, s8, s9, s10, s11, rfl⟩
  rw [goOn_next, Rest_cons]
  simp

end PD.k11
namespace PD.k11
open PySem PySem.Spec PyProof.Rows L2 PD
abbrev R : PySem.W.OpenRow := PySem.W.OpenLaw.row PySem.Challenge.rw_cratetowers_k11_single_moves
def top (i : Nat) : Stmt := PySem.Challenge.pw_cratetowers_k11_single_moves.main.body.getD i (.Pass ⟨0, 0, 0, 0⟩)
def sub (i j : Nat) : Stmt := match top i with
  | .ClassDef _ _ _ b _ _ _ _ _ _ _ => b.getD j (.Pass ⟨0, 0, 0, 0⟩)
  | s => s
def e0 : DefE := ⟨⟨(("Yard" : PySem.Str), some ("__len__" : PySem.Str)), "__len__", "Yard.__len__", defArgs (sub 24 5), defBody (sub 24 5), defScope (sub 24 5), [], []⟩, [("self" : PySem.Str)], [("self" : PySem.Str)]⟩
def e1 : DefE := ⟨⟨(("_law_box" : PySem.Str), none), "_law_box", "_law_box", defArgs (top 40), defBody (top 40), defScope (top 40), [], []⟩, [("cell" : PySem.Str)], [("cell" : PySem.Str)]⟩
def e2 : DefE := ⟨⟨(("_law_cell" : PySem.Str), none), "_law_cell", "_law_cell", defArgs (top 39), defBody (top 39), defScope (top 39), [], []⟩, [("script" : PySem.Str), ("k" : PySem.Str)], [("script" : PySem.Str), ("k" : PySem.Str)]⟩
def e3 : DefE := ⟨⟨(("_law_take" : PySem.Str), none), "_law_take", "_law_take", defArgs (top 41), defBody (top 41), defScope (top 41), [], []⟩, [("box" : PySem.Str), ("amount" : PySem.Str), ("blend" : PySem.Str), ("digit" : PySem.Str)], [("box" : PySem.Str), ("amount" : PySem.Str)]⟩
def e4 : DefE := ⟨⟨(("_law_size" : PySem.Str), none), "_law_size", "_law_size", defArgs (top 42), defBody (top 42), defScope (top 42), [], []⟩, [("box" : PySem.Str), ("most" : PySem.Str), ("size" : PySem.Str)], [("box" : PySem.Str), ("most" : PySem.Str)]⟩
def e5 : DefE := ⟨⟨(("_law_plain" : PySem.Str), none), "_law_plain", "_law_plain", defArgs (top 43), defBody (top 43), defScope (top 43), [], []⟩, [("box" : PySem.Str), ("size" : PySem.Str), ("odds" : PySem.Str), ("crate" : PySem.Str), ("great" : PySem.Str), ("flat" : PySem.Str), ("found" : PySem.Str), ("line" : PySem.Str), ("way" : PySem.Str), ("price" : PySem.Str)], [("box" : PySem.Str), ("size" : PySem.Str)]⟩
def e6 : DefE := ⟨⟨(("is_list" : PySem.Str), none), "is_list", "is_list", defArgs (top 16), defBody (top 16), defScope (top 16), [], []⟩, [("value" : PySem.Str)], [("value" : PySem.Str)]⟩
def e7 : DefE := ⟨⟨(("is_integer" : PySem.Str), none), "is_integer", "is_integer", defArgs (top 15), defBody (top 15), defScope (top 15), [], []⟩, [("value" : PySem.Str)], [("value" : PySem.Str)]⟩
def e8 : DefE := ⟨⟨(("is_price" : PySem.Str), none), "is_price", "is_price", defArgs (top 19), defBody (top 19), defScope (top 19), [], []⟩, [("value" : PySem.Str)], [("value" : PySem.Str)]⟩
def e9 : DefE := ⟨⟨(("are_prices" : PySem.Str), none), "are_prices", "are_prices", defArgs (top 20), defBody (top 20), defScope (top 20), [], []⟩, [("value" : PySem.Str), ("item" : PySem.Str)], [("value" : PySem.Str)]⟩
def e10 : DefE := ⟨⟨(("is_yard_list" : PySem.Str), none), "is_yard_list", "is_yard_list", defArgs (top 21), defBody (top 21), defScope (top 21), [], []⟩, [("value" : PySem.Str), ("row" : PySem.Str)], [("value" : PySem.Str)]⟩
def e11 : DefE := ⟨⟨(("Yard" : PySem.Str), some ("__init__" : PySem.Str)), "__init__", "Yard.__init__", defArgs (sub 24 1), defBody (sub 24 1), defScope (sub 24 1), [], []⟩, [("self" : PySem.Str), ("rows" : PySem.Str), ("row" : PySem.Str)], [("self" : PySem.Str), ("rows" : PySem.Str)]⟩
def e12 : DefE := ⟨⟨(("_law_word" : PySem.Str), none), "_law_word", "_law_word", defArgs (top 44), defBody (top 44), defScope (top 44), [], []⟩, [("box" : PySem.Str), ("size" : PySem.Str), ("crate" : PySem.Str)], [("box" : PySem.Str), ("size" : PySem.Str)]⟩
def e13 : DefE := ⟨⟨(("_law_price" : PySem.Str), none), "_law_price", "_law_price", defArgs (top 45), defBody (top 45), defScope (top 45), [], []⟩, [("plain" : PySem.Str), ("crate" : PySem.Str), ("begin" : PySem.Str), ("place" : PySem.Str)], [("plain" : PySem.Str), ("crate" : PySem.Str), ("begin" : PySem.Str), ("place" : PySem.Str)]⟩
def e14 : DefE := ⟨⟨(("_law_moves" : PySem.Str), none), "_law_moves", "_law_moves", defArgs (top 46), defBody (top 46), defScope (top 46), [], []⟩, [("plain" : PySem.Str), ("word" : PySem.Str), ("tops" : PySem.Str), ("crate" : PySem.Str), ("found" : PySem.Str), ("place" : PySem.Str), ("price" : PySem.Str)], [("plain" : PySem.Str), ("word" : PySem.Str)]⟩
def e15 : DefE := ⟨⟨(("need_yard" : PySem.Str), none), "need_yard", "need_yard", defArgs (top 25), defBody (top 25), defScope (top 25), [], []⟩, [("value" : PySem.Str)], [("value" : PySem.Str)]⟩
def e16 : DefE := ⟨⟨(("is_string_for" : PySem.Str), none), "is_string_for", "is_string_for", defArgs (top 28), defBody (top 28), defScope (top 28), [], []⟩, [("yard" : PySem.Str), ("value" : PySem.Str), ("letter" : PySem.Str)], [("yard" : PySem.Str), ("value" : PySem.Str)]⟩
def e17 : DefE := ⟨⟨(("need_arrangement" : PySem.Str), none), "need_arrangement", "need_arrangement", defArgs (top 29), defBody (top 29), defScope (top 29), [], []⟩, [("yard" : PySem.Str), ("value" : PySem.Str)], [("yard" : PySem.Str), ("value" : PySem.Str)]⟩
def e18 : DefE := ⟨⟨(("third_of" : PySem.Str), none), "third_of", "third_of", defArgs (top 27), defBody (top 27), defScope (top 27), [], []⟩, [("one" : PySem.Str), ("other" : PySem.Str), ("place" : PySem.Str)], [("one" : PySem.Str), ("other" : PySem.Str)]⟩
def e19 : DefE := ⟨⟨(("Yard" : PySem.Str), some ("need_crate" : PySem.Str)), "need_crate", "Yard.need_crate", defArgs (sub 24 8), defBody (sub 24 8), defScope (sub 24 8), [], []⟩, [("self" : PySem.Str), ("crate" : PySem.Str)], [("self" : PySem.Str), ("crate" : PySem.Str)]⟩
def e20 : DefE := ⟨⟨(("is_way" : PySem.Str), none), "is_way", "is_way", defArgs (top 18), defBody (top 18), defScope (top 18), [], []⟩, [("value" : PySem.Str)], [("value" : PySem.Str)]⟩
def e21 : DefE := ⟨⟨(("Yard" : PySem.Str), some ("price" : PySem.Str)), "price", "Yard.price", defArgs (sub 24 9), defBody (sub 24 9), defScope (sub 24 9), [], []⟩, [("self" : PySem.Str), ("crate" : PySem.Str), ("way" : PySem.Str)], [("self" : PySem.Str), ("crate" : PySem.Str), ("way" : PySem.Str)]⟩
def e22 : DefE := ⟨⟨(("price_of" : PySem.Str), none), "price_of", "price_of", defArgs (top 31), defBody (top 31), defScope (top 31), [], []⟩, [("yard" : PySem.Str), ("arrangement" : PySem.Str), ("move" : PySem.Str), ("begin" : PySem.Str), ("rest" : PySem.Str), ("crate" : PySem.Str), ("place" : PySem.Str)], [("yard" : PySem.Str), ("arrangement" : PySem.Str), ("move" : PySem.Str)]⟩
def e23 : DefE := ⟨⟨(("allowed" : PySem.Str), none), "allowed", "allowed", defArgs (top 32), defBody (top 32), defScope (top 32), [], []⟩, [("yard" : PySem.Str), ("arrangement" : PySem.Str), ("moves" : PySem.Str), ("crate" : PySem.Str), ("place" : PySem.Str), ("move" : PySem.Str)], [("yard" : PySem.Str), ("arrangement" : PySem.Str)]⟩
def e24 : DefE := ⟨⟨(("_law_behind" : PySem.Str), none), "_law_behind", "_law_behind", defArgs (top 47), defBody (top 47), defScope (top 47), [], []⟩, [("word" : PySem.Str), ("move" : PySem.Str)], [("word" : PySem.Str), ("move" : PySem.Str)]⟩
def e25 : DefE := ⟨⟨(("is_place" : PySem.Str), none), "is_place", "is_place", defArgs (top 17), defBody (top 17), defScope (top 17), [], []⟩, [("value" : PySem.Str)], [("value" : PySem.Str)]⟩
def e26 : DefE := ⟨⟨(("is_move" : PySem.Str), none), "is_move", "is_move", defArgs (top 30), defBody (top 30), defScope (top 30), [], []⟩, [("yard" : PySem.Str), ("value" : PySem.Str)], [("yard" : PySem.Str), ("value" : PySem.Str)]⟩
def e27 : DefE := ⟨⟨(("need_move" : PySem.Str), none), "need_move", "need_move", defArgs (top 34), defBody (top 34), defScope (top 34), [], []⟩, [("yard" : PySem.Str), ("arrangement" : PySem.Str), ("move" : PySem.Str)], [("yard" : PySem.Str), ("arrangement" : PySem.Str), ("move" : PySem.Str)]⟩
def e28 : DefE := ⟨⟨(("set_down" : PySem.Str), none), "set_down", "set_down", defArgs (top 33), defBody (top 33), defScope (top 33), [], []⟩, [("arrangement" : PySem.Str), ("move" : PySem.Str), ("crate" : PySem.Str), ("place" : PySem.Str)], [("arrangement" : PySem.Str), ("move" : PySem.Str)]⟩
def e29 : DefE := ⟨⟨(("moved" : PySem.Str), none), "moved", "moved", defArgs (top 35), defBody (top 35), defScope (top 35), [], []⟩, [("yard" : PySem.Str), ("arrangement" : PySem.Str), ("move" : PySem.Str)], [("yard" : PySem.Str), ("arrangement" : PySem.Str), ("move" : PySem.Str)]⟩
def e30 : DefE := ⟨⟨(("move_cost" : PySem.Str), none), "move_cost", "move_cost", defArgs (top 36), defBody (top 36), defScope (top 36), [], []⟩, [("yard" : PySem.Str), ("arrangement" : PySem.Str), ("move" : PySem.Str)], [("yard" : PySem.Str), ("arrangement" : PySem.Str), ("move" : PySem.Str)]⟩
def e31 : DefE := ⟨⟨(("way_back" : PySem.Str), none), "way_back", "way_back", defArgs (top 37), defBody (top 37), defScope (top 37), [], []⟩, [("yard" : PySem.Str), ("arrangement" : PySem.Str), ("move" : PySem.Str)], [("yard" : PySem.Str), ("arrangement" : PySem.Str), ("move" : PySem.Str)]⟩
def e32 : DefE := ⟨⟨(("_law_right" : PySem.Str), none), "_law_right", "_law_right", defArgs (top 48), defBody (top 48), defScope (top 48), [], []⟩, [("yard" : PySem.Str), ("plain" : PySem.Str), ("word" : PySem.Str), ("due" : PySem.Str), ("told" : PySem.Str), ("move" : PySem.Str), ("price" : PySem.Str), ("after_it" : PySem.Str), ("back" : PySem.Str), ("barred" : PySem.Str), ("other" : PySem.Str)], [("yard" : PySem.Str), ("plain" : PySem.Str), ("word" : PySem.Str)]⟩
def e33 : DefE := ⟨⟨(("_law_turns_right" : PySem.Str), none), "_law_turns_right", "_law_turns_right", defArgs (top 49), defBody (top 49), defScope (top 49), [], []⟩, [("yard" : PySem.Str), ("plain" : PySem.Str), ("far" : PySem.Str), ("other" : PySem.Str), ("word" : PySem.Str), ("move" : PySem.Str), ("price" : PySem.Str), ("fresh" : PySem.Str), ("step" : PySem.Str), ("cost" : PySem.Str)], [("yard" : PySem.Str), ("plain" : PySem.Str), ("far" : PySem.Str), ("other" : PySem.Str), ("word" : PySem.Str)]⟩
def e34 : DefE := ⟨⟨(("law" : PySem.Str), none), "law", "law", defArgs (top 50), defBody (top 50), defScope (top 50), [], []⟩, [("script" : PySem.Str), ("k" : PySem.Str), ("box" : PySem.Str), ("size" : PySem.Str), ("plain" : PySem.Str), ("far" : PySem.Str), ("word" : PySem.Str), ("yard" : PySem.Str), ("free" : PySem.Str), ("other" : PySem.Str), ("due" : PySem.Str), ("crate" : PySem.Str)], [("script" : PySem.Str)]⟩
open PySem
def S : Spec where
  P := prog
  gn := [("PLACES" : PySem.Str), ("WAYS" : PySem.Str), ("MOST_CRATES" : PySem.Str), ("DIGITS" : PySem.Str)]
  fnm := [("?" : PySem.Str), ("_law_box" : PySem.Str), ("_law_cell" : PySem.Str), ("_law_take" : PySem.Str), ("_law_size" : PySem.Str), ("_law_plain" : PySem.Str), ("is_list" : PySem.Str), ("is_integer" : PySem.Str), ("is_price" : PySem.Str), ("are_prices" : PySem.Str), ("is_yard_list" : PySem.Str), ("Yard" : PySem.Str), ("_law_word" : PySem.Str), ("_law_price" : PySem.Str), ("_law_moves" : PySem.Str), ("need_yard" : PySem.Str), ("is_string_for" : PySem.Str), ("need_arrangement" : PySem.Str), ("third_of" : PySem.Str), ("?" : PySem.Str), ("is_way" : PySem.Str), ("?" : PySem.Str), ("price_of" : PySem.Str), ("allowed" : PySem.Str), ("_law_behind" : PySem.Str), ("is_place" : PySem.Str), ("is_move" : PySem.Str), ("need_move" : PySem.Str), ("set_down" : PySem.Str), ("moved" : PySem.Str), ("move_cost" : PySem.Str), ("way_back" : PySem.Str), ("_law_right" : PySem.Str), ("_law_turns_right" : PySem.Str), ("law" : PySem.Str)]
  mn := [("__len__" : PySem.Str), ("?" : PySem.Str), ("?" : PySem.Str), ("?" : PySem.Str), ("?" : PySem.Str), ("?" : PySem.Str), ("?" : PySem.Str), ("?" : PySem.Str), ("?" : PySem.Str), ("?" : PySem.Str), ("?" : PySem.Str), ("__init__" : PySem.Str), ("?" : PySem.Str), ("?" : PySem.Str), ("?" : PySem.Str), ("?" : PySem.Str), ("?" : PySem.Str), ("?" : PySem.Str), ("?" : PySem.Str), ("need_crate" : PySem.Str), ("?" : PySem.Str), ("price" : PySem.Str), ("?" : PySem.Str), ("?" : PySem.Str), ("?" : PySem.Str), ("?" : PySem.Str), ("?" : PySem.Str), ("?" : PySem.Str), ("?" : PySem.Str), ("?" : PySem.Str), ("?" : PySem.Str), ("?" : PySem.Str), ("?" : PySem.Str), ("?" : PySem.Str), ("?" : PySem.Str)]
  cn := [("CratesError" : PySem.Str), ("InvalidYard" : PySem.Str), ("InvalidText" : PySem.Str), ("InvalidArrangement" : PySem.Str), ("InvalidWay" : PySem.Str), ("InvalidCrate" : PySem.Str), ("InvalidMove" : PySem.Str), ("InvalidCount" : PySem.Str), ("Yard" : PySem.Str)]
  fl := [[], [("value" : PySem.Str)], [("value" : PySem.Str)], [("value" : PySem.Str)], [("value" : PySem.Str)], [("value" : PySem.Str)], [("value" : PySem.Str)], [("value" : PySem.Str)], [("lines" : PySem.Str)]]
  kcs := [8]
  lens := [(8, 0)]
  defs := [e0, e1, e2, e3, e4, e5, e6, e7, e8, e9, e10, e11, e12, e13, e14, e15, e16, e17, e18, e19, e20, e21, e22, e23, e24, e25, e26, e27, e28, e29, e30, e31, e32, e33, e34]
theorem tx : Text S 60 where
  rp := rfl
  kc := fun c h => by simpa [S, prog, P] using h
  ck := fun c h => by simpa [S, prog, P] using h
  len := fun c f h => by
    simp only [S, prog, P] at h ⊢
    repeat' split at h
    all_goals first | (cases h; simp_all; done) | simp_all
  tx := fun K v => by kernel_rfl
def names0 : List PySem.Str := [("_wall" : PySem.Str), ("CratesError" : PySem.Str), ("InvalidYard" : PySem.Str), ("InvalidText" : PySem.Str), ("InvalidArrangement" : PySem.Str), ("InvalidWay" : PySem.Str), ("InvalidCrate" : PySem.Str), ("InvalidMove" : PySem.Str), ("InvalidCount" : PySem.Str), ("PLACES" : PySem.Str), ("WAYS" : PySem.Str), ("MOST_CRATES" : PySem.Str), ("DIGITS" : PySem.Str), ("is_integer" : PySem.Str), ("is_list" : PySem.Str), ("is_place" : PySem.Str), ("is_way" : PySem.Str), ("is_price" : PySem.Str), ("are_prices" : PySem.Str), ("is_yard_list" : PySem.Str), ("numeral" : PySem.Str), ("read_row" : PySem.Str), ("Yard" : PySem.Str), ("need_yard" : PySem.Str), ("third_of" : PySem.Str), ("is_string_for" : PySem.Str), ("need_arrangement" : PySem.Str), ("is_move" : PySem.Str), ("price_of" : PySem.Str), ("allowed" : PySem.Str), ("set_down" : PySem.Str), ("need_move" : PySem.Str), ("moved" : PySem.Str), ("move_cost" : PySem.Str), ("way_back" : PySem.Str), ("_law_cell" : PySem.Str), ("_law_box" : PySem.Str), ("_law_take" : PySem.Str), ("_law_size" : PySem.Str), ("_law_plain" : PySem.Str)]
def names1 : List PySem.Str := [("_law_word" : PySem.Str), ("_law_price" : PySem.Str), ("_law_moves" : PySem.Str), ("_law_behind" : PySem.Str), ("_law_right" : PySem.Str), ("_law_turns_right" : PySem.Str)]
def names : List PySem.Str := names0 ++ names1
abbrev qv : Program := PySem.W.view R.prog [50]
theorem run_top (w : World) : HandSHeadRun.RunEq R qv (hookP 5 S) (obT 5 S) 6000 names w := by
  intro os
  kernel_rfl
end PD.k11
open PySem PySem.W PySem.Calls PyProof.Rows
theorem PD.k11.holds_of (told : ∀ ns : List Int, ns.length ≤ 63 → ∃ o st, PD.run PD.k11.prog 24 PD.k11.f_law [.scr ns] [] = .ok (o, .bl true) st) : PySem.Challenge.rw_cratetowers_k11_single_moves.Holds := by
  w_on; o_law
  refine HandSHeadRun.head_any (r := OpenLaw.row PySem.Challenge.rw_cratetowers_k11_single_moves) (q := PD.k11.qv) (H := PD.hookP 5 PD.k11.S) (ob := PD.obT 5 PD.k11.S) (M := 6000) (loose := PD.k11.names) (d := HandSHeadRun.topDef (OpenLaw.row PySem.Challenge.rw_cratetowers_k11_single_moves).prog 50) (kwd := []) (PD.obT_eq 5 PD.k11.S)
    (by kernel_rfl) (fun s => by kernel_rfl) PD.k11.run_top (by kernel_rfl) (by kernel_rfl) (by kernel_rfl) (by rfl) (by first | assumption | decide +kernel) (by decide +kernel) ⟨rfl, rfl, rfl, rfl, rfl, by decide +kernel⟩ ?hw ?hc
  case hw => w_witness2
  case hc => exact PD.walk_ofP (l := PySem.Challenge.rw_cratetowers_k11_single_moves) (S := PD.k11.S) (m := 24) (f := PD.k11.f_law) (F := PD.k11.b_law) (e := PD.k11.e34) PD.k11.tx rfl (by kernel_rfl) ⟨rfl, by decide, by decide⟩ rfl rfl rfl rfl (by kernel_rfl) told
namespace PD.k11
theorem told (ns : List Int) (_ : ns.length ≤ 63) : ∃ o st, run prog 24 f_law [.scr ns] [] = .ok (o, .bl true) st := by
  obtain ⟨v, st, e, h⟩ := (law_ok 12 ns).ex
  rw [h] at e
  exact ⟨.all, st, e⟩
end PD.k11
theorem PySem.Challenge.cw_cratetowers_k11_single_moves_holds : PySem.Challenge.rw_cratetowers_k11_single_moves.Holds := by
  exact PD.k11.holds_of PD.k11.told
