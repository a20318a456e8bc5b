import PyProof.Rows.All
import Wide.All
import OpenK.AllK
import Wide.FinOn
import HandS.ForMost
import KE.KDictKeyed
import HandS.Dict
import HandS.AnyAll
import HandS.TupMul
import HandS.TupAny
import HandS.Flow
import HandS.Deep
import KE.SortData
import KE.KSortTup
import KE.KSortAsk
import KE.KDictWalk
import KE.KDictList
import KE.KDictCopyH
import HandS.More
import HandS.Style
import HandS.IsInst
import HandS.Conv
import HandS.Zip
import HandS.GenList
import PyProof.SumAny
import PyProof.TupleOfGen
import HandS.EndTab
import PySem.Challenge.RW_keptoffers_k62_closed_lots_at_eight_rule
set_option Elab.async false
set_option linter.all false
set_option maxRecDepth 100000
set_option maxHeartbeats 8000000
/-! Kp, part A: plain data, a small language, its reckoner. Own work. -/
namespace Kp
open PySem

/-! ### data -/
inductive D where
  | non | bl (b : Bool) | int (i : Int) | str (x : Str)
  | tup (ds : List D) | lst (ds : List D) | ref (i : Nat) | rol (ds : List D)
  deriving Inhabited
mutual
def beqD : D → D → Bool
  | .non, .non => true
  | .bl a, .bl b => a == b
  | .int a, .int b => a == b
  | .str a, .str b => a == b
  | .tup a, .tup b => beqDs a b
  | .lst a, .lst b => beqDs a b
  | .ref a, .ref b => a == b
  | .rol a, .rol b => beqDs a b
  | _, _ => false
def beqDs : List D → List D → Bool
  | [], [] => true
  | x :: xs, y :: ys => beqD x y && beqDs xs ys
  | _, _ => false
end
mutual
theorem beqD_iff : ∀ a b : D, beqD a b = true ↔ a = b
  | .non, b => by cases b <;> simp [beqD]
  | .bl _, b => by cases b <;> simp [beqD]
  | .int _, b => by cases b <;> simp [beqD]
  | .str _, b => by cases b <;> simp [beqD]
  | .tup a, b => by cases b <;> simp [beqD, beqDs_iff a]
  | .lst a, b => by cases b <;> simp [beqD, beqDs_iff a]
  | .ref _, b => by cases b <;> simp [beqD]
  | .rol a, b => by cases b <;> simp [beqD, beqDs_iff a]
theorem beqDs_iff : ∀ a b : List D, beqDs a b = true ↔ a = b
  | [], b => by cases b <;> simp [beqDs]
  | x :: xs, b => by cases b <;> simp [beqDs, beqD_iff x, beqDs_iff xs]
end
instance instDecEqD : DecidableEq D := fun a b => decidable_of_iff _ (beqD_iff a b)

/- == of Python, of data within a heap's reach -/
mutual
def deq : D → D → Bool
  | .non, .non => true
  | .bl a, .bl b => a == b
  | .bl a, .int j => (if a then 1 else 0) == j
  | .int i, .bl b => i == (if b then 1 else 0)
  | .int a, .int b => a == b
  | .str a, .str b => a == b
  | .tup a, .tup b => deqs a b
  | .lst a, .lst b => deqs a b
  | _, _ => false
def deqs : List D → List D → Bool
  | [], [] => true
  | x :: xs, y :: ys => deq x y && deqs xs ys
  | _, _ => false
end
mutual
/-- no reference within -/
def pur : D → Bool
  | .tup ds => purs ds
  | .lst ds => purs ds
  | .ref _ => false
  | .rol _ => false
  | _ => true
def purs : List D → Bool
  | [] => true
  | d :: ds => pur d && purs ds
end
mutual
def dep : D → Nat
  | .tup ds => deps ds + 1
  | .lst ds => deps ds + 1
  | _ => 0
def deps : List D → Nat
  | [] => 0
  | d :: ds => max (dep d) (deps ds)
end
mutual
/-- all references below n -/
def low (n : Nat) : D → Bool
  | .tup ds => lows n ds
  | .lst ds => lows n ds
  | .ref i => decide (i < n)
  | .rol ds => lows n ds
  | _ => true
def lows (n : Nat) : List D → Bool
  | [] => true
  | d :: ds => low n d && lows n ds
end
mutual
/-- < of Python: ints, texts, tuples and lists of such -/
def dlt : D → D → Option Bool
  | .int a, .int b => some (decide (a < b))
  | .bl a, .bl b => some (!a && b)
  | .str a, .str b => some (decide (a.cps.toList < b.cps.toList))
  | .tup a, .tup b => dlts a b
  | .lst a, .lst b => dlts a b
  | _, _ => none
def dlts : List D → List D → Option Bool
  | [], [] => some false
  | [], _ :: _ => some true
  | _ :: _, [] => some false
  | x :: xs, y :: ys => if deq x y then dlts xs ys else dlt x y
end

mutual
def alk : D → D → Bool
  | .non, .non => true
  | .bl _, .bl _ => true
  | .int _, .int _ => true
  | .str _, .str _ => true
  | .tup a, .tup b => alks a b
  | .lst a, .lst b => alks a b
  | _, _ => false
def alks : List D → List D → Bool
  | x :: xs, y :: ys => alk x y && alks xs ys
  | [], _ => true
  | _ :: _, [] => true
end

/-- a cell: what may be written -/
inductive C where
  | lst (ds : List D)
  | dct (kvs : List (D × D))
  | ins (c : Nat) (fs : List (Str × D))
  deriving Inhabited
abbrev S := List C
abbrev Env := List (Option D)
def lim : Nat := 100000
def bd {α β : Type} (x : Option (α × S)) (f : α → S → Option (β × S)) : Option (β × S) := match x with
  | some (a, s) => f a s
  | none => none
@[simp] theorem bd_some {α β : Type} (a : α) (s : S) (f : α → S → Option (β × S)) : bd (some (a, s)) f = f a s := rfl
@[simp] theorem bd_none {α β : Type} (f : α → S → Option (β × S)) : bd none f = none := rfl

/-! keys of dicts: whole numbers and texts, or tuples (of tuples) of these and None -/
mutual
def kNst : D → Bool
  | .non => true
  | .int _ => true
  | .str _ => true
  | .tup ds => kNsts ds
  | _ => false
def kNsts : List D → Bool
  | [] => true
  | d :: ds => kNst d && kNsts ds
end
def kIn : D → Bool
  | .int _ => true
  | .str _ => true
  | _ => false
def kTp : D → Bool
  | .tup ds => kNsts ds && decide (deps ds ≤ 7)
  | _ => false
abbrev Kvs := List (D × D)
def dOk (kvs : Kvs) (k : D) : Bool := (kIn k && kvs.all fun p => kIn p.1) || (kTp k && kvs.all fun p => kTp p.1)
def dGet (kvs : Kvs) (k : D) : Option D := (kvs.find? fun p => decide (p.1 = k)).map (·.2)
def dPut (kvs : Kvs) (k v : D) : Kvs := if (kvs.any fun p => decide (p.1 = k)) = true then kvs.map (fun p => if p.1 = k then (p.1, v) else p) else kvs ++ [(k, v)]
def dMrg (kvs : Kvs) : Kvs → Kvs
  | [] => kvs
  | p :: ps => dMrg (dPut kvs p.1 p.2) ps
def dctOf (s : S) : D → Option Kvs
  | .ref i => match s[i]? with
    | some (.dct kvs) => some kvs
    | _ => none
  | _ => none
/-- a list in hand, wherever it stands -/
def lstOf (s : S) : D → Option (List D)
  | .lst ds => some ds
  | .ref i => match s[i]? with
    | some (.lst ds) => some ds
    | _ => none
  | _ => none
/-- a list or a tuple -/
def seqOf (s : S) : D → Option (List D)
  | .tup ds => some ds
  | .rol ds => some ds
  | d => lstOf s d
/-- the datum with its own list told -/
def view (s : S) : D → D
  | .ref i => match s[i]? with
    | some (.lst ds) => .lst ds
    | _ => .ref i
  | d => d
def newL (mu : Bool) (ds : List D) (s : S) : Option (D × S) :=
  if ds.length ≤ lim then (if mu then some (.ref s.length, s ++ [.lst ds]) else some (.lst ds, s)) else none
def newT (ds : List D) (s : S) : Option (D × S) := if ds.length ≤ lim then some (.tup ds, s) else none

def truD (s : S) : D → Option Bool
  | .non => some false
  | .bl b => some b
  | .int i => some (i != 0)
  | .str x => if x.length ≤ lim then some ((x.length : Int) != 0) else none
  | .tup ds => some (!ds.isEmpty)
  | .lst ds => some (!ds.isEmpty)
  | .ref i => match s[i]? with
    | some (.lst ds) => some (!ds.isEmpty)
    | _ => none
  | .rol ds => some (!ds.isEmpty)

/-! ### operators -/
inductive BOp where | add (mu : Bool) | sub | mul (mu : Bool) | mod | fdiv | pow
  deriving DecidableEq
inductive COp where | eq | ne | lt | le | gt | ge | isin | notin | isb | isnb
  deriving DecidableEq
def smallI (i : Int) : Bool := decide (-(2 ^ 64) < i ∧ i < 2 ^ 64)
def binD (o : BOp) (x y : D) (s : S) : Option (D × S) := match o, x, y with
  | .add _, .int i, .int j => some (.int (i + j), s)
  | .add _, .str i, .str j => if i.length + j.length ≤ lim then some (.str (i ++ j), s) else none
  | .add _, .tup a, .tup b => if a.length + b.length ≤ lim then some (.tup (a ++ b), s) else none
  | .add mu, x, y => match lstOf s x, lstOf s y with
    | some a, some b => newL mu (a ++ b) s
    | _, _ => none
  | .sub, .int i, .int j => some (.int (i - j), s)
  | .mul _, .int i, .int j => if smallI i || smallI j then some (.int (i * j), s) else none
  | .mul _, .tup a, .int k => if a ≠ [] ∧ 2 ≤ k ∧ k ≤ 1000 ∧ a.length ≤ 1000 then some (.tup (List.replicate k.toNat a).flatten, s) else none
  | .mul mu, x, .int k => match lstOf s x with
    | some a => if 0 ≤ k ∧ k ≤ 1000 ∧ a.length ≤ 100 then newL mu (List.replicate k.toNat a).flatten s else none
    | none => none
  | .mod, .int i, .int j => if 0 < j then some (.int (i % j), s) else none
  | .fdiv, .int i, .int j => if 0 < j ∧ j < 1073741824 then some (.int (i / j), s) else none
  | .pow, .int i, .int j => if 0 ≤ j ∧ j ≤ 1000 ∧ smallI i then some (.int (i ^ j.toNat), s) else none
  | _, _, _ => none
/-- a op= b, of ints and texts -/
def iopD (o : BOp) (x y : D) (s : S) : Option (D × S) := match o, x, y with
  | .add _, .int i, .int j => some (.int (i + j), s)
  | .add _, .str i, .str j => if i.length + j.length ≤ lim then some (.str (i ++ j), s) else none
  | .sub, .int i, .int j => some (.int (i - j), s)
  | .mul _, .int i, .int j => if smallI i || smallI j then some (.int (i * j), s) else none
  | .mod, .int i, .int j => if 0 < j then some (.int (i % j), s) else none
  | .fdiv, .int i, .int j => if 0 < j ∧ j < 1073741824 then some (.int (i / j), s) else none
  | _, _, _ => none
/-- == as it may be asked -/
def eqD (s : S) (x y : D) : Option Bool :=
  let a := view s x
  let b := view s y
  if pur a && pur b && decide (min (dep a) (dep b) ≤ 64) then some (deq a b) else none
def inD (s : S) (x y : D) : Option Bool :=
  match dctOf s y with
  | some kvs => if dOk kvs x then some (dGet kvs x).isSome else none
  | none => match y with
  | .tup ds => if pur (view s x) && purs ds && decide (dep (view s x) ≤ 60) then some (ds.any fun z => deq z (view s x)) else none
  | y => match lstOf s y with
    | some ds => if pur (view s x) && purs ds && decide (dep (view s x) ≤ 60) then some (ds.any fun z => deq z (view s x)) else none
    | none => none
def cmpD (o : COp) (x y : D) (s : S) : Option Bool := match o with
  | .eq => eqD s x y
  | .ne => (eqD s x y).map (!·)
  | .lt => if pur x && pur y && decide (dep x ≤ 60) && alk x y then dlt x y else none
  | .gt => match x, y with
    | .int i, .int j => some (decide (j < i))
    | _, _ => none
  | .le => match x, y with
    | .int i, .int j => some (decide (i ≤ j))
    | _, _ => none
  | .ge => match x, y with
    | .int i, .int j => some (decide (j ≤ i))
    | _, _ => none
  | .isin => inD s x y
  | .notin => (inD s x y).map (!·)
  | .isb => match x, y with
    | .bl a, .bl b => some (decide (a = b))
    | _, _ => none
  | .isnb => match x, y with
    | .bl a, .bl b => some (!decide (a = b))
    | _, _ => none
/-- a place from either end -/
def ixD (n : Nat) (i : Int) : Option Nat := if 0 ≤ i then (if i < n then some i.toNat else none) else if -(n : Int) ≤ i then some (i + n).toNat else none
def idxD (x y : D) (s : S) : Option D := match dctOf s x with
  | some kvs => if dOk kvs y then dGet kvs y else none
  | none => match y with
  | .int i => match x with
    | .tup ds => (ixD ds.length i).bind fun j => ds[j]?
    | x => match lstOf s x with
      | some ds => (ixD ds.length i).bind fun j => ds[j]?
      | none => none
  | _ => none
def sIxD (n d : Nat) : Option Int → Nat
  | none => d
  | some v => if v < 0 then (v + n).toNat else min v.toNat n
def cutD (xs : List D) (lo hi : Option Int) : List D := (xs.drop (sIxD xs.length 0 lo)).take (sIxD xs.length xs.length hi - sIxD xs.length 0 lo)
def slcD (mu : Bool) (x : D) (lo hi : Option Int) (s : S) : Option (D × S) := match x with
  | .tup ds => some (.tup (cutD ds lo hi), s)
  | .rol ds => newL mu (cutD ds lo hi) s
  | x => match lstOf s x with
    | some ds => newL mu (cutD ds lo hi) s
    | none => none

/-! ### built-in functions and methods, by values -/
inductive Bi where | len | abs | int | min2 | max2 | maxl | minl | sum | sorted | list | tuple | listRg | tupRg | dict
  deriving DecidableEq
inductive Mt where | append | pop | popAt | insert | extend | reverse | index | get | get2
  deriving DecidableEq
inductive Ty where | tint | tbool | tstr | ttuple | tlist
  deriving DecidableEq
def intsOf : List D → Option (List Int)
  | [] => some []
  | .int i :: r => (intsOf r).map (i :: ·)
  | _ => none
def ltb (a b : D) : Bool := (dlt a b).getD false
def leD (a b : D) : Bool := !ltb b a
def isTp : D → Bool
  | .tup _ => true
  | _ => false
def notT : D → Bool
  | .tup _ => false
  | .non => false
  | _ => true
/-- stable, ascending -/
def sortD (ds : List D) : Option (List D) :=
  if purs ds && decide (deps ds ≤ 60) && (ds.all fun a => ds.all (alk a)) && (ds.all isTp || ds.all notT) then some (ds.mergeSort leD) else none
def maxI : List Int → Int
  | [] => 0
  | [x] => x
  | x :: xs => max x (maxI xs)
def minI : List Int → Int
  | [] => 0
  | [x] => x
  | x :: xs => min x (minI xs)
def prsOf : List D → Option Kvs
  | [] => some []
  | .tup [k, v] :: r => (prsOf r).map ((k, v) :: ·)
  | _ => none
def biD (b : Bi) (mu : Bool) (ds : List D) (s : S) : Option (D × S) := match b, ds with
  | .len, [.str x] => if x.length ≤ lim then some (.int x.length, s) else none
  | .len, [d] => match dctOf s d with
    | some kvs => some (.int kvs.length, s)
    | none => (seqOf s d).map fun xs => (.int xs.length, s)
  | .abs, [.int i] => some (.int (if i < 0 then -i else i), s)
  | .int, [.int i] => some (.int i, s)
  | .int, [.bl k] => some (.int (if k then 1 else 0), s)
  | .min2, [.int i, .int j] => some (.int (if j < i then j else i), s)
  | .max2, [.int i, .int j] => some (.int (if j > i then j else i), s)
  | .maxl, [d] => ((lstOf s d).bind intsOf).bind fun ns => if ns = [] then none else some (.int (maxI ns), s)
  | .minl, [d] => ((lstOf s d).bind intsOf).bind fun ns => if ns = [] then none else some (.int (minI ns), s)
  | .sum, [d] => ((lstOf s d).bind intsOf).map fun ns => (.int ns.sum, s)
  | .list, [d] => match dctOf s d with
    | some kvs => newL mu (kvs.map (·.1)) s
    | none => (seqOf s d).bind fun xs => newL mu xs s
  | .tuple, [d] => (seqOf s d).bind fun xs => newT xs s
  | .sorted, [d] => ((lstOf s d).bind sortD).bind fun xs => newL mu xs s
  | .dict, [d] => (lstOf s d).bind fun xs => (prsOf xs).bind fun ps => if xs.length ≤ lim ∧ (ps.all fun p => kIn p.1) = true then some (.ref s.length, s ++ [.dct (dMrg [] ps)]) else none
  | .listRg, [.int n] => if -(lim : Int) ≤ n ∧ n ≤ lim then newL mu ((List.range n.toNat).map fun i => .int (i : Nat)) s else none
  | .tupRg, [.int n] => if -(lim : Int) ≤ n ∧ n ≤ lim then newT ((List.range n.toNat).map fun i => .int (i : Nat)) s else none
  | _, _ => none
def mtD (m : Mt) (o : D) (ds : List D) (s : S) : Option (D × S) := match o with
  | .ref k => match s[k]? with
    | some (.lst xs) => match m, ds with
      | .append, [d] => if xs.length < lim then some (.non, s.set k (.lst (xs ++ [d]))) else none
      | .pop, [] => match xs[xs.length - 1]? with
        | some y => some (y, s.set k (.lst xs.dropLast))
        | none => none
      | .popAt, [.int i] => match ixD xs.length i with
        | some j => match xs[j]? with
          | some y => some (y, s.set k (.lst (xs.eraseIdx j)))
          | none => none
        | none => none
      | .reverse, [] => some (.non, s.set k (.lst xs.reverse))
      | _, _ => none
    | some (.dct kvs) => match m, ds with
      | .get, [x] => if dOk kvs x then some ((dGet kvs x).getD .non, s) else none
      | .get2, [x, y] => if dOk kvs x then some ((dGet kvs x).getD y, s) else none
      | _, _ => none
    | _ => none
  | _ => none
/-- an object of the method's kind -/
def mtGo (m : Mt) (x : D) (s : S) : Bool := match m with
  | .get => (dctOf s x).isSome
  | .get2 => (dctOf s x).isSome
  | _ => (lstOf s x).isSome
def isiD (d : D) (t : Ty) (s : S) : Option Bool := match t, d with
  | .tint, .int _ => some true
  | .tint, .bl _ => some true
  | .tbool, .bl _ => some true
  | .tstr, .str _ => some true
  | .ttuple, .tup _ => some true
  | .tlist, .lst _ => some true
  | _, .rol _ => none
  | t, .ref i => match s[i]? with
    | some (.lst _) => some (decide (t = .tlist))
    | _ => none
  | _, _ => some false
def setD (o i v : D) (s : S) : Option S := match o with
  | .ref k => match s[k]? with
    | some (.lst xs) => match i with
      | .int i => (ixD xs.length i).map fun j => s.set k (.lst (xs.set j v))
      | _ => none
    | some (.dct kvs) => if dOk kvs i = true ∧ kvs.length < lim then some (s.set k (.dct (dPut kvs i v))) else none
    | _ => none
  | _ => none

/-! ### what takes a generator expression -/
inductive Gk where | all | any | sum | tuple
  deriving DecidableEq
def Gk.stop : Gk → D → Bool
  | .all, d => !decide (d = .bl true)
  | .any, d => !decide (d = .bl false)
  | .sum, d => match d with
    | .int _ => false
    | _ => true
  | .tuple, _ => false
def Gk.fin (k : Gk) (ds : List D) (s : S) : Option (D × S) := if ds.length ≤ lim then match k with
  | .all => match ds.getLast? with
    | none => some (.bl true, s)
    | some (.bl b) => some (.bl b, s)
    | some _ => none
  | .any => match ds.getLast? with
    | none => some (.bl false, s)
    | some (.bl b) => some (.bl b, s)
    | some _ => none
  | .sum => (intsOf ds).map fun ns => (.int ns.sum, s)
  | .tuple => some (.tup ds, s)
  else none

/-! ### the language -/
inductive Tg where
  | nm (i : Nat)
  | tp (n : Nat) (ts : List Tg)
mutual
inductive E where
  | var (i : Nat)
  | con (d : D)
  | glo (i : Nat)
  | bin (o : BOp) (a b : E)
  | neg (a : E)
  | not (a : E)
  | and (as : Es)
  | or (as : Es)
  | cmp (o : COp) (a b : E)
  | chn (o1 o2 : COp) (a b c : E)
  | ite (c a b : E)
  | idx (a b : E)
  | slc (mu : Bool) (a : E) (lo hi : Eo)
  | tup (as : Es)
  | lst (mu : Bool) (as : Es)
  | dnew
  | call (f : Nat) (as : Es)
  | callk (f : Nat) (as : Es) (ks : Es) (nms : List Str) (perm : List Nat)
  | bi (b : Bi) (mu : Bool) (as : Es)
  | rgl (tu mu : Bool) (a : E)
  | mt (m : Mt) (o : E) (as : Es)
  | isi (a : E) (t : Ty)
  | isn (a : E)
  | ntn (a : E)
  | lc (mu : Bool) (own : List Nat) (t : Tg) (it : It) (ifs : Es) (e : E)
  | gx (k : Gk) (own : List Nat) (t : Tg) (it : It) (ifs : Es) (e : E)
inductive Es where
  | nil
  | cons (e : E) (es : Es)
inductive Eo where
  | none
  | some (e : E)
inductive It where
  | seq (e : E)
  | rng (e : E)
  | rng2 (a b : E)
  | zip (a b : E)
  | enum (a : E)
end
mutual
inductive St where
  | asg (t : Tg) (e : E)
  | asgLc (i : Nat) (mu : Bool) (own : List Nat) (t : Tg) (it : It) (ifs : Es) (e : E)
  | par (is : List Nat) (as : Es)
  | sset (o i v : E)
  | aug (i : Nat) (o : BOp) (e : E)
  | exp (e : E)
  | ret (e : E)
  | retn
  | ifs (c : E) (a b : Ss)
  | whl (c : E) (b : Ss)
  | fr (t : Tg) (it : It) (b : Ss)
  | brk
  | cnt
  | pas
inductive Ss where
  | nil
  | cons (s : St) (ss : Ss)
end

abbrev CF := Nat → List D → S → Option (D × S)
inductive Fl where | nx | rt (d : D) | bk | ct
abbrev Lk := List (Nat × List D)
def lkOk (lk : Lk) (s : S) : Bool := lk.all fun p => match s[p.1]? with
  | some (.lst ds) => decide (ds = p.2)
  | _ => false
mutual
def asgT : Tg → D → Env → Option Env
  | .nm i, d, env => some (env.set i (some d))
  | .tp n ts, d, env => match d with
    | .tup ds => if ds.length = n then asgTs ts ds env else none
    | _ => none
def asgTs : List Tg → List D → Env → Option Env
  | [], [], env => some env
  | t :: ts, d :: ds, env => (asgT t d env).bind (asgTs ts ds)
  | _, _, _ => none
end
def wipeD (env : Env) : List Nat → Env
  | [] => env
  | v :: vs => (wipeD env vs).set v none
def compL (step : D → S → Option (Option D × S)) (lk : Lk) : List D → S → Option (List D × S)
  | [], s => some ([], s)
  | d :: ds, s => bd (step d s) fun o s1 => if lkOk lk s1 then bd (compL step lk ds s1) fun r s2 => some (o.toList ++ r, s2) else none
def gxL (step : D → S → Option (Option D × S)) (stop : D → Bool) (lk : Lk) : List D → S → Option (List D × S)
  | [], s => some ([], s)
  | d :: ds, s => bd (step d s) fun o s1 => match o with
    | none => if lkOk lk s1 then gxL step stop lk ds s1 else none
    | some x => if stop x then some ([x], s1) else if lkOk lk s1 then bd (gxL step stop lk ds s1) fun r s2 => some (x :: r, s2) else none
def forL (step : D → Env → S → Option (Fl × Env × S)) (lk : Lk) : List D → Env → S → Option (Fl × Env × S)
  | [], env, s => some (.nx, env, s)
  | d :: ds, env, s => match step d env s with
    | some (.nx, env', s') => if lkOk lk s' then forL step lk ds env' s' else none
    | some (.ct, env', s') => if lkOk lk s' then forL step lk ds env' s' else none
    | some (.bk, env', s') => some (.nx, env', s')
    | some (.rt v, env', s') => some (.rt v, env', s')
    | none => none
def whlL (test : Env → S → Option (Bool × S)) (body : Env → S → Option (Fl × Env × S)) : Nat → Env → S → Option (Fl × Env × S)
  | 0, _, _ => none
  | n + 1, env, s => match test env s with
    | some (true, s1) => match body env s1 with
      | some (.nx, env', s') => whlL test body n env' s'
      | some (.ct, env', s') => whlL test body n env' s'
      | some (.bk, env', s') => some (.nx, env', s')
      | some (.rt v, env', s') => some (.rt v, env', s')
      | none => none
    | some (false, s1) => some (.nx, env, s1)
    | none => none
def tru (s : S) (d : D) : Option (Bool × S) := (truD s d).map fun b => (b, s)
/-- what is walked: is it a tuple, its items, the cells that are walked -/
def srcD (s : S) : D → Option (Bool × List D × Lk)
  | .tup ds => some (true, ds, [])
  | .rol ds => some (false, ds, [])
  | .lst ds => some (false, ds, [])
  | .ref i => match s[i]? with
    | some (.lst ds) => some (false, ds, [(i, ds)])
    | _ => none
  | _ => none
def setAll (env : Env) : List Nat → List D → Env
  | i :: is, d :: ds => setAll (env.set i (some d)) is ds
  | _, _ => env
/-- the tests of a comprehension's clause -/
def permD (vs : List D) (perm : List Nat) : Option (List D) := perm.mapM fun j => vs[j]?

section
variable (G : List D)
mutual
def ev (cf : List CF) : E → Env → S → Option (D × S)
  | .var i, env, s => match env[i]? with
    | some (some d) => some (d, s)
    | _ => none
  | .con d, _, s => some (d, s)
  | .glo i, _, s => (G[i]?).map fun d => (d, s)
  | .bin o a b, env, s => bd (ev cf a env s) fun x s1 => bd (ev cf b env s1) fun y s2 => binD o x y s2
  | .neg a, env, s => bd (ev cf a env s) fun x s1 => match x with
    | .int i => some (.int (-i), s1)
    | _ => none
  | .not a, env, s => bd (ev cf a env s) fun x s1 => (truD s1 x).map fun b => (.bl (!b), s1)
  | .and as, env, s => evand cf as env s
  | .or as, env, s => evor cf as env s
  | .cmp o a b, env, s => bd (ev cf a env s) fun x s1 => bd (ev cf b env s1) fun y s2 => (cmpD o x y s2).map fun b => (.bl b, s2)
  | .chn o1 o2 a b c, env, s => bd (ev cf a env s) fun x s1 => bd (ev cf b env s1) fun y s2 => match cmpD o1 x y s2 with
    | some true => bd (ev cf c env s2) fun z s3 => (cmpD o2 y z s3).map fun b => (.bl b, s3)
    | some false => some (.bl false, s2)
    | none => none
  | .ite c a b, env, s => bd (ev cf c env s) fun x s1 => match truD s1 x with
    | some true => ev cf a env s1
    | some false => ev cf b env s1
    | none => none
  | .idx a b, env, s => bd (ev cf a env s) fun x s1 => bd (ev cf b env s1) fun y s2 => (idxD x y s2).map fun d => (d, s2)
  | .slc mu a lo hi, env, s => bd (ev cf a env s) fun x s1 => bd (evo cf lo env s1) fun l s2 => bd (evo cf hi env s2) fun h s3 => slcD mu x l h s3
  | .tup as, env, s => bd (evs cf as env s) newT
  | .lst mu as, env, s => bd (evs cf as env s) (newL mu)
  | .dnew, _, s => some (.ref s.length, s ++ [.dct []])
  | .call f as, env, s => bd (evs cf as env s) fun vs s1 => match cf with
    | [] => none
    | c :: _ => c f vs s1
  | .callk f as ks _ perm, env, s => bd (evs cf as env s) fun vs s1 => bd (evs cf ks env s1) fun ws s2 => match cf with
    | [] => none
    | c :: _ => (permD (vs ++ ws) perm).bind fun us => c f us s2
  | .bi b mu as, env, s => bd (evs cf as env s) (biD b mu)
  | .rgl tu mu a, env, s => bd (bd (ev cf a env s) fun x s1 => some ([x], s1)) (biD (if tu then .tupRg else .listRg) mu)
  | .mt m o as, env, s => bd (ev cf o env s) fun x s1 => if mtGo m x s1 = true then bd (evs cf as env s1) (mtD m x) else none
  | .isi a t, env, s => bd (ev cf a env s) fun x s1 => (isiD x t s1).map fun b => (.bl b, s1)
  | .isn a, env, s => bd (ev cf a env s) fun x s1 => some (.bl (decide (x = .non)), s1)
  | .ntn a, env, s => bd (ev cf a env s) fun x s1 => some (.bl (!decide (x = .non)), s1)
  | .lc mu own t it ifs e, env, s => bd (evi cf it env s) fun (ds, lk) s1 =>
      bd (compL (fun d s' => match asgT t d (wipeD env own) with
        | some env' => bd (evt cf ifs env' s') fun b s2 => if b then bd (ev cf e env' s2) fun x s3 => some (some x, s3) else some (none, s2)
        | none => none) lk ds s1) (newL mu)
  | .gx k own t it ifs e, env, s => match cf with
    | [] => none
    | _ :: rest => bd (evi cf it env s) fun (ds, lk) s1 =>
      bd (gxL (fun d s' => match asgT t d (wipeD env own) with
        | some env' => bd (evt rest ifs env' s') fun b s2 => if b then bd (ev rest e env' s2) fun x s3 => some (some x, s3) else some (none, s2)
        | none => none) k.stop lk ds s1) k.fin
def evs (cf : List CF) : Es → Env → S → Option (List D × S)
  | .nil, _, s => some ([], s)
  | .cons e es, env, s => bd (ev cf e env s) fun x s1 => bd (evs cf es env s1) fun xs s2 => some (x :: xs, s2)
def evand (cf : List CF) : Es → Env → S → Option (D × S)
  | .nil, _, _ => none
  | .cons e es, env, s => bd (ev cf e env s) fun x s1 => match es with
    | .nil => some (x, s1)
    | .cons _ _ => match truD s1 x with
      | some true => evand cf es env s1
      | some false => some (x, s1)
      | none => none
def evor (cf : List CF) : Es → Env → S → Option (D × S)
  | .nil, _, _ => none
  | .cons e es, env, s => bd (ev cf e env s) fun x s1 => match es with
    | .nil => some (x, s1)
    | .cons _ _ => match truD s1 x with
      | some true => some (x, s1)
      | some false => evor cf es env s1
      | none => none
/-- tests, all of which are to hold -/
def evt (cf : List CF) : Es → Env → S → Option (Bool × S)
  | .nil, _, s => some (true, s)
  | .cons e es, env, s => bd (ev cf e env s) fun x s1 => match truD s1 x with
    | some true => evt cf es env s1
    | some false => some (false, s1)
    | none => none
def evo (cf : List CF) : Eo → Env → S → Option (Option Int × S)
  | .none, _, s => some (none, s)
  | .some e, env, s => bd (ev cf e env s) fun x s1 => match x with
    | .int i => some (some i, s1)
    | _ => none
def evi (cf : List CF) : It → Env → S → Option ((List D × Lk) × S)
  | .seq e, env, s => bd (ev cf e env s) fun x s1 => (srcD s1 x).map fun p => ((p.2.1, p.2.2), s1)
  | .rng e, env, s => bd (ev cf e env s) fun x s1 => match x with
    | .int n => if -(2 ^ 62) ≤ n ∧ n < 2 ^ 62 then some (((List.range n.toNat).map fun i => .int (i : Nat), []), s1) else none
    | _ => none
  | .rng2 a b, env, s => bd (ev cf a env s) fun x s1 => bd (ev cf b env s1) fun y s2 => match x, y with
    | .int i, .int j => if -(2 ^ 62) ≤ i ∧ i < 2 ^ 62 ∧ -(2 ^ 62) ≤ j ∧ j < 2 ^ 62 then some (((List.range (j - i).toNat).map fun k => .int (i + (k : Nat)), []), s2) else none
    | _, _ => none
  | .zip a b, env, s => bd (ev cf a env s) fun x s1 => bd (ev cf b env s1) fun y s2 => match srcD s2 x, srcD s2 y with
    | some (t1, xs, l1), some (t2, ys, l2) => if t1 = t2 then some (((xs.zip ys).map fun p => .tup [p.1, p.2], l1 ++ l2), s2) else none
    | _, _ => none
  | .enum a, env, s => bd (ev cf a env s) fun x s1 => match srcD s1 x with
    | some (false, ds, lk) => some ((ds.zipIdx.map fun p => .tup [.int (p.2 : Nat), p.1], lk), s1)
    | _ => none
end

def wfuel : Nat := 1000000
mutual
def ex (cf : List CF) : St → Env → S → Option (Fl × Env × S)
  | .asg t e, env, s => match ev G cf e env s with
    | some (x, s1) => (asgT t x env).map fun env' => (.nx, env', s1)
    | none => none
  | .asgLc i mu own t it ifs e, env, s => match ev G cf (.lc mu own t it ifs e) env s with
    | some (x, s1) => some (.nx, env.set i (some x), s1)
    | none => none
  | .par is as, env, s => match evs G cf as env s with
    | some (ds, s1) => if ds.length = is.length then some (.nx, setAll env is ds, s1) else none
    | none => none
  | .sset o i v, env, s => match ev G cf v env s with
    | some (x, s1) => match ev G cf o env s1 with
      | some (y, s2) => match ev G cf i env s2 with
        | some (z, s3) => (setD y z x s3).map fun s4 => (.nx, env, s4)
        | none => none
      | none => none
    | none => none
  | .aug i o e, env, s => match env[i]? with
    | some (some x) => match ev G cf e env s with
      | some (y, s1) => match iopD o x y s1 with
        | some (z, s2) => some (.nx, env.set i (some z), s2)
        | none => none
      | none => none
    | _ => none
  | .exp e, env, s => match ev G cf e env s with
    | some (_, s1) => some (.nx, env, s1)
    | none => none
  | .ret e, env, s => match ev G cf e env s with
    | some (x, s1) => some (.rt x, env, s1)
    | none => none
  | .retn, env, s => some (.rt .non, env, s)
  | .ifs c a b, env, s => match ev G cf c env s with
    | some (x, s1) => match truD s1 x with
      | some true => exs cf a env s1
      | some false => exs cf b env s1
      | none => none
    | none => none
  | .whl c b, env, s => whlL (fun env s => bd (ev G cf c env s) fun x s1 => tru s1 x) (exs cf b) wfuel env s
  | .fr t it b, env, s => match evi G cf it env s with
    | some ((ds, lk), s1) => forL (fun d env s => match asgT t d env with
        | some env' => exs cf b env' s
        | none => none) lk ds env s1
    | none => none
  | .brk, env, s => some (.bk, env, s)
  | .cnt, env, s => some (.ct, env, s)
  | .pas, env, s => some (.nx, env, s)
def exs (cf : List CF) : Ss → Env → S → Option (Fl × Env × S)
  | .nil, env, s => some (.nx, env, s)
  | .cons st ss, env, s => match ex cf st env s with
    | some (.nx, env', s') => exs cf ss env' s'
    | r => r
end
end

/-! ### defs -/
structure Fn where
  ps : Nat
  nl : Nat
  body : Ss
  keep : Bool := false
def cellLow (n : Nat) : C → Bool
  | .lst ds => lows n ds
  | .dct kvs => kvs.all fun p => low n p.1 && low n p.2
  | .ins _ fs => fs.all fun p => low n p.2
/-- a call's own cells are forgotten; a list that is handed out is shut -/
def shut (n : Nat) (s' : S) (d : D) : D := match d with
  | .ref i => if n ≤ i then (match s'[i]? with
    | some (.lst ds) => .lst ds
    | _ => d) else d
  | d => d
def oldOk (s s' : S) : Prop := ∀ j, j < s.length → s'[j]? = s[j]? ∨ ∃ c, s'[j]? = some c ∧ cellLow s.length c = true
open Classical in
noncomputable def fin (keep : Bool) (s : S) (d : D) (s' : S) : Option (D × S) :=
  if keep then some (d, s')
  else if low s.length (shut s.length s' d) = true ∧ oldOk s s' then some (shut s.length s' d, s'.take s.length) else none
noncomputable def runF (G : List D) (P : List Fn) (cf : List CF) : CF := fun f args s => match P[f]? with
  | none => none
  | some i => if args.length = i.ps then (match exs G cf i.body (args.map some ++ List.replicate (i.nl - args.length) none) s with
    | some (.rt d, _, s') => fin i.keep s d s'
    | some (.nx, _, s') => fin i.keep s .non s'
    | _ => none) else none
noncomputable def calls (G : List D) (P : List Fn) : Nat → List CF
  | 0 => []
  | n + 1 => runF G P (calls G P n) :: calls G P n
theorem calls_length (G : List D) (P : List Fn) : ∀ n, (calls G P n).length = n
  | 0 => rfl
  | n + 1 => by simp [calls, calls_length G P n]
end Kp

/-! Kp, part B: how data stand in the abstract heap. Own work. -/
namespace Kp
open PySem PySem.Spec PyProof.Rows L2

/-- what the head knows; the tables of the code objects -/
structure Kq where
  k : PySem.W.Frag
  T : List Addr
  w : World
instance : Coe Kq PySem.W.Frag := ⟨Kq.k⟩
abbrev qx (X : Cx) (τ : List Addr) : Kq := ⟨X.K, τ, X.w⟩
/-- no table -/
def NTb (o : HO) : Prop := ∀ ps, o ≠ .tbl ps
theorem ntb_lst {xs : List V} : NTb (.lst xs) := fun _ h => by cases h
theorem ntb_tup {xs : List V} : NTb (.tup xs) := fun _ h => by cases h
theorem ntb_frz {o : Obj} {u : HO} : NTb (.frz o u) := fun _ h => by cases h
theorem ntb_mut {o : HO} (h : Mut (some o)) : NTb o := fun ps e => by subst e; exact h
theorem tabG_keep {H H' : Hp} {P : Addr} (h : GxR.TabG H P) (e : H' P = H P) : GxR.TabG H' P := by
  obtain ⟨ps, h1, h2⟩ := h
  exact ⟨ps, e.trans h1, h2⟩
theorem tabG_obj {H : Hp} {P p : Addr} {o : HO} (h : GxR.TabG H P) (hp : H p = none) : GxR.TabG (upd H p o) P :=
  tabG_keep h (upd_ne fun e => by obtain ⟨ps, h1, _⟩ := h; rw [e, hp] at h1; cases h1)
theorem tabG_mut {H : Hp} {P p : Addr} {o : HO} (h : GxR.TabG H P) (hp : Mut (H p)) : GxR.TabG (upd H p o) P :=
  tabG_keep h (upd_ne fun e => by obtain ⟨ps, h1, _⟩ := h; rw [← e, h1] at hp; exact hp)
/-- the cells' addresses; the addresses that others write (the lists that comprehensions fill) -/
structure Ph where
  f : Nat → Addr
  F : Addr → Prop
instance : CoeFun Ph (fun _ => Nat → Addr) := ⟨Ph.f⟩

/-! keys that are tuples -/
mutual
def nk : D → NestedKey
  | .int i => .num i
  | .str x => .text x
  | .tup ds => .tup (nks ds)
  | _ => .none
def nks : List D → List NestedKey
  | [] => []
  | d :: ds => nk d :: nks ds
end
/-- an entry -/
def ndEnt (w : World) (x : NestedKey × Addr × Value) : DictEntry := ⟨NestedKey.hash w x.1, .ref x.2.1, x.2.2⟩
/-- a dict with tuples as keys: its entries -/
def dN (w : World) (a : Addr) (es : List (NestedKey × Addr × V)) : HO := .ext fun h => es.length ≤ sizeLine ∧ (a == sysModules) = false ∧
  ∃ xs : List (NestedKey × Addr × Value), Paired (fun p q => p.1 = q.1 ∧ p.2.1 = q.2.1 ∧ RelV p.2.2 q.2.2) es xs ∧
    ∃ o ents ep, h.get? a = some o ∧ o.ExactDict ∧ o.data = .dict ents ep ∧ ents.toList = xs.map (ndEnt w) ∧ (xs.map (·.1)).Nodup

section
variable (K : Kq) (φ : Ph) (n : Nat) (H : Hp)
mutual
inductive RV : V → D → Prop
  | non : RV .non .non
  | bl (b : Bool) : RV (.bl b) (.bl b)
  | int (i : Int) : RV (.int i) (.int i)
  | str (x : Str) (h : x.cps.all (· < 0x110000) = true) : RV (.str x) (.str x)
  | tup {a : Addr} {vs : List V} {ds : List D} (h : SqT K H a vs) (r : RVs vs ds) : RV (.ref a) (.tup ds)
  | lst {a : Addr} {vs : List V} {ds : List D} (h : H a = some (.lst vs)) (nc : ∀ i, i < n → φ i ≠ a) (nf : ¬ φ.F a) (r : RVs vs ds) : RV (.ref a) (.lst ds)
  | rol {a : Addr} {vs : List V} {ds : List D} (h : (∃ o, H a = some (.frz o (.lst vs))) ∨ SqL K (fun _ => none) a vs) (r : RVs vs ds) : RV (.ref a) (.rol ds)
  | ref (i : Nat) (h : i < n) : RV (.ref (φ i)) (.ref i)
inductive RVs : List V → List D → Prop
  | nil : RVs [] []
  | cons {v : V} {vs : List V} {d : D} {ds : List D} (h : RV v d) (r : RVs vs ds) : RVs (v :: vs) (d :: ds)
end
/-- a dict with ints and texts as keys -/
abbrev KPs : List (Key × V) → Kvs → Prop := Paired fun p q => RV K φ n H (kV p.1) q.1 ∧ RV K φ n H p.2 q.2
/-- a dict with tuples as keys -/
abbrev NPs : List (NestedKey × Addr × V) → Kvs → Prop := Paired fun p q => nk q.1 = p.1 ∧ kTp q.1 = true ∧ RV K φ n H (.ref p.2.1) q.1 ∧ RV K φ n H p.2.2 q.2
def CellR (a : Addr) : C → Prop
  | .lst ds => ∃ vs, H a = some (.lst vs) ∧ RVs K φ n H vs ds
  | .dct kvs => (∃ xs, H a = some (.dK xs) ∧ KPs K φ n H xs kvs) ∨ ∃ es, H a = some (dN K.w a es) ∧ NPs K φ n H es kvs ∧ es ≠ []
  | _ => False
end
structure Rel (K : Kq) (φ : Ph) (s : S) (H : Hp) : Prop where
  inj : ∀ i j, i < s.length → j < s.length → φ i = φ j → i = j
  cell : ∀ i c, s[i]? = some c → CellR K φ s.length H (φ i) c
  fo : ∀ a, φ.F a → Mut (H a) ∧ ∀ i, i < s.length → φ i ≠ a
  tab : ∀ P ∈ K.T, GxR.TabG H P
structure Ext (φ : Ph) (n : Nat) (H : Hp) (φ' : Ph) (n' : Nat) (H' : Hp) : Prop where
  le : n ≤ n'
  old : ∀ i, i < n → φ' i = φ i
  new : ∀ i, n ≤ i → i < n' → H (φ' i) = none
  keep : ∀ a o, H a = some o → NTb o → (∀ i, i < n → φ i ≠ a) → H' a = some o
  tb : ∀ a ps, H a = some (.tbl ps) → ∃ ps', H' a = some (.tbl ps')
  fk : ∀ a, φ.F a → φ'.F a
  ff : ∀ a, φ'.F a → φ.F a ∨ H a = none
/-- the cells may be written -/
def CM (φ : Ph) (n : Nat) (H : Hp) : Prop := ∀ i, i < n → Mut (H (φ i))
theorem mut_some {H : Hp} {a : Addr} (h : Mut (H a)) : ∃ o, H a = some o := by
  cases e : H a with
  | none => rw [e] at h; exact h.elim
  | some o => exact ⟨o, rfl⟩

section
variable {K : Kq} {φ φ1 φ2 : Ph} {n n1 n2 : Nat} {H H1 H2 : Hp} {s : S} {a : Addr}
theorem Rel.cm (r : Rel K φ s H) : CM φ s.length H := fun i hi => by
  have e : s[i]? = some s[i] := List.getElem?_eq_getElem hi
  have h := r.cell i _ e
  cases hc : s[i] with
  | lst ds =>
    rw [hc] at h
    obtain ⟨vs, h, _⟩ := h
    rw [h]
    trivial
  | dct _ =>
    rw [hc] at h
    rcases h with ⟨xs, h, _⟩ | ⟨xs, h, _⟩
    · rw [h]; trivial
    · rw [h]; trivial
  | ins _ _ => rw [hc] at h; exact h.elim
theorem RVs.length {vs : List V} {ds : List D} (r : RVs K φ n H vs ds) : vs.length = ds.length := by
  induction ds generalizing vs with
  | nil => cases r; rfl
  | cons d ds ih => cases r with
    | cons h r => rw [List.length_cons, List.length_cons, ih r]
theorem RVs.get {vs : List V} {ds : List D} (r : RVs K φ n H vs ds) : ∀ {i : Nat} {d : D}, ds[i]? = some d → ∃ v, vs[i]? = some v ∧ RV K φ n H v d := by
  induction ds generalizing vs with
  | nil => intro i d h; simp at h
  | cons d ds ih =>
    cases r with
    | cons h r =>
      intro i e he
      cases i with
      | zero => simp at he; subst he; exact ⟨_, rfl, h⟩
      | succ i => simp at he; obtain ⟨v, h1, h2⟩ := ih r he; exact ⟨v, by simpa using h1, h2⟩
theorem RVs.getV {vs : List V} {ds : List D} (r : RVs K φ n H vs ds) : ∀ {i : Nat} {v : V}, vs[i]? = some v → ∃ d, ds[i]? = some d ∧ RV K φ n H v d := by
  induction ds generalizing vs with
  | nil => cases r; intro i d h; simp at h
  | cons d ds ih =>
    cases r with
    | cons h r =>
      intro i e he
      cases i with
      | zero => simp at he; subst he; exact ⟨_, rfl, h⟩
      | succ i => simp at he; obtain ⟨v, h1, h2⟩ := ih r he; exact ⟨v, by simpa using h1, h2⟩
theorem RVs.append {vs ws : List V} {ds es : List D} (r : RVs K φ n H vs ds) (q : RVs K φ n H ws es) : RVs K φ n H (vs ++ ws) (ds ++ es) := by
  induction ds generalizing vs with
  | nil => cases r; exact q
  | cons d ds ih => cases r with
    | cons h r => exact .cons h (ih r)
theorem RVs.drop {vs : List V} {ds : List D} (r : RVs K φ n H vs ds) : ∀ k, RVs K φ n H (vs.drop k) (ds.drop k) := by
  induction ds generalizing vs with
  | nil => cases r; intro k; simpa using RVs.nil
  | cons d ds ih => cases r with
    | cons h r =>
      intro k
      cases k with
      | zero => exact .cons h r
      | succ k => simpa using ih r k
theorem RVs.take {vs : List V} {ds : List D} (r : RVs K φ n H vs ds) : ∀ k, RVs K φ n H (vs.take k) (ds.take k) := by
  induction ds generalizing vs with
  | nil => cases r; intro k; simpa using RVs.nil
  | cons d ds ih => cases r with
    | cons h r =>
      intro k
      cases k with
      | zero => exact .nil
      | succ k => simpa using RVs.cons h (ih r k)
theorem RVs.set {vs : List V} {ds : List D} (r : RVs K φ n H vs ds) {v : V} {d : D} (hd : RV K φ n H v d) : ∀ k, RVs K φ n H (vs.set k v) (ds.set k d) := by
  induction ds generalizing vs with
  | nil => cases r; intro k; exact .nil
  | cons d ds ih => cases r with
    | cons h r =>
      intro k
      cases k with
      | zero => exact .cons hd r
      | succ k => exact .cons h (ih r k)
theorem RVs.erase {vs : List V} {ds : List D} (r : RVs K φ n H vs ds) : ∀ k, RVs K φ n H (vs.eraseIdx k) (ds.eraseIdx k) := by
  induction ds generalizing vs with
  | nil => cases r; intro k; exact .nil
  | cons d ds ih => cases r with
    | cons h r =>
      intro k
      cases k with
      | zero => exact r
      | succ k => exact .cons h (ih r k)
theorem RVs.dropLast {vs : List V} {ds : List D} (r : RVs K φ n H vs ds) : RVs K φ n H vs.dropLast ds.dropLast := by
  rw [List.dropLast_eq_take, List.dropLast_eq_take, r.length]
  exact r.take _
theorem RVs.reverse {vs : List V} {ds : List D} (r : RVs K φ n H vs ds) : RVs K φ n H vs.reverse ds.reverse := by
  induction ds generalizing vs with
  | nil => cases r; exact .nil
  | cons d ds ih => cases r with
    | cons h r =>
      rw [List.reverse_cons, List.reverse_cons]
      exact (ih r).append (.cons h .nil)
theorem RVs.rep {vs : List V} {ds : List D} (r : RVs K φ n H vs ds) : ∀ k : Nat, RVs K φ n H (List.replicate k vs).flatten (List.replicate k ds).flatten
  | 0 => .nil
  | k + 1 => by
    rw [List.replicate_succ, List.replicate_succ, List.flatten_cons, List.flatten_cons]
    exact r.append (RVs.rep r k)
theorem RVs.ints : ∀ (ns : List Int), RVs K φ n H (ns.map V.int) (ns.map D.int)
  | [] => .nil
  | i :: r => .cons (.int i) (RVs.ints r)

theorem rdKeep {o : HO} (ho : NTb o) (r : Rd H a o) (k : ∀ b o, H b = some o → NTb o → b = a → H1 b = some o) : Rd H1 a o := by
  rcases r with r | ⟨u, r⟩
  · exact .inl (k _ _ r ho rfl)
  · exact .inr ⟨u, k _ _ r ntb_frz rfl⟩
theorem rdSome {o : HO} (r : Rd H a o) : H a ≠ none := by
  rcases r with r | ⟨u, r⟩ <;> rw [r] <;> simp
/-- a tuple is no cell -/
theorem tup_nc (cm : CM φ n H) {vs : List V} (r : Rd H a (.tup vs)) : ∀ i, i < n → φ i ≠ a := fun i hi e => by
  have h := cm i hi
  rw [e] at h
  rcases r with r | ⟨u, r⟩ <;> rw [r] at h <;> exact h
mutual
theorem RV.mono (cm : CM φ n H) (x : Ext φ n H φ1 n1 H1) : ∀ (d : D) {v : V}, RV K φ n H v d → RV K φ1 n1 H1 v d
  | .non, _, h => by cases h; exact .non
  | .bl b, _, h => by cases h; exact .bl b
  | .int i, _, h => by cases h; exact .int i
  | .str y, _, h => by cases h with
    | str _ q => exact .str y q
  | .ref i, _, h => by cases h with
    | ref _ q =>
      rw [← x.old i q]
      exact .ref i (Nat.lt_of_lt_of_le q x.le)
  | .tup ds, _, h => by cases h with
    | tup q r =>
      refine .tup ?_ (RVs.mono cm x ds r)
      rcases q with q | q
      · exact .inl (rdKeep ntb_tup q fun b o hb ho e => x.keep b o hb ho (by subst e; exact tup_nc cm q))
      · exact .inr q
  | .lst ds, _, h => by cases h with
    | lst q nc nf r =>
      refine .lst (x.keep _ _ q ntb_lst nc) (fun i hi e => ?_) (fun e => ?_) (RVs.mono cm x ds r)
      · by_cases hn : i < n
        · rw [x.old i hn] at e; exact nc i hn e
        · have h1 := x.new i (by omega) hi
          rw [e, q] at h1
          cases h1
      · rcases x.ff _ e with z | z
        · exact nf z
        · rw [q] at z; cases z
  | .rol ds, _, h => by cases h with
    | rol q r =>
      refine .rol ?_ (RVs.mono cm x ds r)
      rcases q with ⟨o, q⟩ | q
      · refine .inl ⟨o, x.keep _ _ q ntb_frz fun i hi e => ?_⟩
        have z := cm i hi
        rw [e, q] at z
        exact z
      · exact .inr q
theorem RVs.mono (cm : CM φ n H) (x : Ext φ n H φ1 n1 H1) : ∀ (ds : List D) {vs : List V}, RVs K φ n H vs ds → RVs K φ1 n1 H1 vs ds
  | [], _, h => by cases h; exact .nil
  | d :: ds, _, h => by cases h with
    | cons h r => exact .cons (RV.mono cm x d h) (RVs.mono cm x ds r)
end
theorem CellR.mono (cm : CM φ n H) (x : Ext φ n H φ1 n1 H1) {c : C} (e : H1 a = H a) (h : CellR K φ n H a c) : CellR K φ1 n1 H1 a c := by
  cases c with
  | lst ds =>
    obtain ⟨vs, h1, h2⟩ := h
    exact ⟨vs, e.trans h1, h2.mono cm x⟩
  | dct kvs =>
    rcases h with ⟨xs, h1, h2⟩ | ⟨xs, h1, h2, h3⟩
    · exact .inl ⟨xs, e.trans h1, Paired.mapP h2 fun p q z => ⟨z.1.mono cm x, z.2.mono cm x⟩⟩
    · exact .inr ⟨xs, e.trans h1, Paired.mapP h2 fun p q z => ⟨z.1, z.2.1, z.2.2.1.mono cm x, z.2.2.2.mono cm x⟩, h3⟩
  | ins _ _ => exact h.elim
theorem Ext.refl : Ext φ n H φ n H := ⟨Nat.le_refl _, fun _ _ => rfl, fun i h1 h2 => absurd h1 (by omega), fun _ _ h _ _ => h, fun _ ps h => ⟨ps, h⟩, fun _ h => h, fun _ h => .inl h⟩
theorem Ext.none_of (x : Ext φ n H φ1 n1 H1) (cm : CM φ1 n1 H1) {p : Addr} (h : H1 p = none) : H p = none := by
  cases e : H p with
  | none => rfl
  | some o =>
    by_cases hc : ∃ j, j < n ∧ φ j = p
    · obtain ⟨j, hj, ej⟩ := hc
      have z := cm j (Nat.lt_of_lt_of_le hj x.le)
      rw [x.old j hj, ej, h] at z
      exact z.elim
    · by_cases ht : NTb o
      · rw [x.keep _ o e ht fun j hj ej => hc ⟨j, hj, ej⟩] at h
        cases h
      · obtain ⟨ps, rfl⟩ : ∃ ps, o = .tbl ps := Classical.byContradiction fun z => ht fun ps e => z ⟨ps, e⟩
        obtain ⟨ps', e'⟩ := x.tb _ _ e
        rw [e'] at h
        cases h
theorem Ext.trans (x : Ext φ n H φ1 n1 H1) (cm : CM φ1 n1 H1) (y : Ext φ1 n1 H1 φ2 n2 H2) : Ext φ n H φ2 n2 H2 where
  le := Nat.le_trans x.le y.le
  old := fun i hi => (y.old i (Nat.lt_of_lt_of_le hi x.le)).trans (x.old i hi)
  new := fun i h1 h2 => by
    by_cases h : i < n1
    · rw [y.old i h]; exact x.new i h1 h
    · exact x.none_of cm (y.new i (by omega) h2)
  fk := fun a h => y.fk a (x.fk a h)
  ff := fun a h => by
    rcases y.ff a h with z | z
    · exact x.ff a z
    · exact .inr (x.none_of cm z)
  tb := fun a ps h => let ⟨_, h1⟩ := x.tb a ps h; y.tb a _ h1
  keep := fun a o h ht hn => y.keep a o (x.keep a o h ht hn) ht fun i hi e => by
    by_cases h' : i < n
    · rw [x.old i h'] at e; exact hn i h' e
    · have q := x.new i (by omega) hi
      rw [e, h] at q
      cases q
theorem Ext.free (x : Ext φ n H φ1 n1 H1) (cm : CM φ1 n1 H1) {p : Addr} (h : H1 p = none) : H p = none := x.none_of cm h
/-- a new object that is no cell -/
theorem Ext.obj {p : Addr} {o : HO} (hp : H p = none) : Ext φ n H φ n (upd H p o) :=
  ⟨Nat.le_refl _, fun _ _ => rfl, fun i h1 h2 => absurd h1 (by omega), fun b u hb _ _ => by rw [upd_ne (ne_of_none hb hp)]; exact hb, fun b ps hb => ⟨ps, by rw [upd_ne (ne_of_none hb hp)]; exact hb⟩, fun _ h => h, fun _ h => .inl h⟩
theorem mut_new {p a : Addr} {o : HO} (hp : H p = none) (h : Mut (H a)) : Mut (upd H p o a) := by
  obtain ⟨u, e⟩ := mut_some h
  rw [upd_ne (ne_of_none e hp)]
  exact h
theorem Rel.obj (r : Rel K φ s H) {p : Addr} {o : HO} (hp : H p = none) : Rel K φ s (upd H p o) where
  inj := r.inj
  cell := fun i c e => by
    have h := r.cell i c e
    obtain ⟨o, ho⟩ := mut_some (r.cm i (List.getElem?_eq_some_iff.mp e).1)
    exact h.mono r.cm (Ext.obj hp) (upd_ne (ne_of_none ho hp))
  fo := fun a h => ⟨mut_new hp (r.fo a h).1, (r.fo a h).2⟩
  tab := fun P h => tabG_obj (r.tab P h) hp
/-- a cell's address by its number, one more -/
def addC (φ : Ph) (n : Nat) (p : Addr) : Ph := ⟨fun i => if i = n then p else φ i, φ.F⟩
theorem addC_ne {φ : Ph} {n i : Nat} {p : Addr} (h : ¬ i = n) : (addC φ n p) i = φ i := if_neg h
theorem addC_eq {φ : Ph} {n : Nat} {p : Addr} : (addC φ n p) n = p := if_pos rfl
theorem Ext.cell {p : Addr} {o : HO} (hp : H p = none) : Ext φ n H (addC φ n p) (n + 1) (upd H p o) where
  le := Nat.le_succ _
  old := fun i hi => addC_ne (by omega)
  new := fun i h1 h2 => by
    have e : i = n := by omega
    subst e
    rw [addC_eq]
    exact hp
  keep := fun b u hb _ _ => by rw [upd_ne (ne_of_none hb hp)]; exact hb
  tb := fun b ps hb => ⟨ps, by rw [upd_ne (ne_of_none hb hp)]; exact hb⟩
  fk := fun _ h => h
  ff := fun _ h => .inl h
theorem Rel.newC' (r : Rel K φ s H) {p : Addr} {o : HO} {c' : C} (hp : H p = none) (hv : CellR K (addC φ s.length p) (s.length + 1) (upd H p o) p c') :
    Rel K (addC φ s.length p) (s ++ [c']) (upd H p o) := by
  have x : Ext φ s.length H (addC φ s.length p) (s.length + 1) (upd H p o) := Ext.cell hp
  have nc : ∀ i, i < s.length → φ i ≠ p := fun i hi e => by
    have h := r.cm i hi
    rw [e, hp] at h
    exact h
  refine ⟨fun i j hi hj e => ?_, fun i c e => ?_, fun a h => ⟨mut_new hp (r.fo a h).1, fun i hi e => ?_⟩, fun P h => tabG_obj (r.tab P h) hp⟩
  · rw [List.length_append] at hi hj
    simp only [List.length_cons, List.length_nil] at hi hj
    by_cases h1 : i = s.length
    · by_cases h2 : j = s.length
      · omega
      · rw [h1, addC_eq, addC_ne h2] at e
        exact absurd e.symm (nc j (by omega))
    · by_cases h2 : j = s.length
      · rw [h2, addC_eq, addC_ne h1] at e
        exact absurd e (nc i (by omega))
      · rw [addC_ne h1, addC_ne h2] at e
        exact r.inj i j (by omega) (by omega) e
  · rw [List.length_append]
    by_cases h1 : i < s.length
    · rw [List.getElem?_append_left h1] at e
      have h := r.cell i c e
      have ei : (addC φ s.length p) i = φ i := x.old i h1
      rw [ei]
      exact h.mono r.cm x (upd_ne (nc i h1))
    · have h2 : i = s.length := by
        have := (List.getElem?_eq_some_iff.mp e).1
        rw [List.length_append] at this
        simp at this
        omega
      subst h2
      rw [List.getElem?_append_right (Nat.le_refl _)] at e
      simp at e
      subst e
      rw [addC_eq]
      exact hv
  · rw [List.length_append] at hi
    simp only [List.length_cons, List.length_nil] at hi
    by_cases h1 : i = s.length
    · subst h1
      rw [addC_eq] at e
      obtain ⟨u, z⟩ := mut_some (r.fo a h).1
      rw [← e, hp] at z
      cases z
    · rw [addC_ne h1] at e
      exact (r.fo a h).2 i (by omega) e

theorem Rel.newC (r : Rel K φ s H) {p : Addr} {vs : List V} {ds : List D} (hp : H p = none) (hv : RVs K φ s.length H vs ds) :
    Rel K (addC φ s.length p) (s ++ [.lst ds]) (upd H p (.lst vs)) := r.newC' hp ⟨vs, upd_same, hv.mono r.cm (Ext.cell hp)⟩

/-! ### an address that others write -/
theorem not_tup {p a : Addr} {vs : List V} (m : Mut (H p)) (r : Rd H a (.tup vs)) : a ≠ p := fun e => by
  subst e
  rcases r with r | ⟨u, r⟩ <;> rw [r] at m <;> exact m
mutual
theorem RV.updF {p : Addr} {o : HO} (m : Mut (H p)) (hf : φ.F p) : ∀ (d : D) {v : V}, RV K φ n H v d → RV K φ n (upd H p o) v d
  | .non, _, h => by cases h; exact .non
  | .bl b, _, h => by cases h; exact .bl b
  | .int i, _, h => by cases h; exact .int i
  | .str y, _, h => by cases h with
    | str _ q => exact .str y q
  | .ref i, _, h => by cases h with
    | ref _ q => exact .ref i q
  | .tup ds, _, h => by cases h with
    | tup q r =>
      refine .tup ?_ (RVs.updF m hf ds r)
      rcases q with q | q
      · exact .inl (rdKeep ntb_tup q fun b o hb _ e => by subst e; rw [upd_ne (not_tup m q)]; exact hb)
      · exact .inr q
  | .lst ds, _, h => by cases h with
    | lst q nc nf r => exact .lst (by rw [upd_ne fun e => nf (by rw [e]; exact hf)]; exact q) nc nf (RVs.updF m hf ds r)
  | .rol ds, _, h => by cases h with
    | rol q r =>
      refine .rol ?_ (RVs.updF m hf ds r)
      rcases q with ⟨u, q⟩ | q
      · refine .inl ⟨u, ?_⟩
        rw [upd_ne fun e => ?_]
        · exact q
        · rw [← e, q] at m; exact m
      · exact .inr q
theorem RVs.updF {p : Addr} {o : HO} (m : Mut (H p)) (hf : φ.F p) : ∀ (ds : List D) {vs : List V}, RVs K φ n H vs ds → RVs K φ n (upd H p o) vs ds
  | [], _, h => by cases h; exact .nil
  | d :: ds, _, h => by cases h with
    | cons h r => exact .cons (RV.updF m hf d h) (RVs.updF m hf ds r)
end
theorem CellR.updF {p : Addr} {o : HO} (m : Mut (H p)) (hf : φ.F p) {c : C} (e : a ≠ p) (h : CellR K φ n H a c) : CellR K φ n (upd H p o) a c := by
  cases c with
  | lst ds =>
    obtain ⟨vs, h1, h2⟩ := h
    exact ⟨vs, by rw [upd_ne e]; exact h1, h2.updF m hf⟩
  | dct kvs =>
    rcases h with ⟨xs, h1, h2⟩ | ⟨xs, h1, h2, h3⟩
    · exact .inl ⟨xs, by rw [upd_ne e]; exact h1, Paired.mapP h2 fun p q z => ⟨z.1.updF m hf, z.2.updF m hf⟩⟩
    · exact .inr ⟨xs, by rw [upd_ne e]; exact h1, Paired.mapP h2 fun p q z => ⟨z.1, z.2.1, z.2.2.1.updF m hf, z.2.2.2.updF m hf⟩, h3⟩
  | ins _ _ => exact h.elim
theorem Rel.updF {p : Addr} {o : HO} (r : Rel K φ s H) (hf : φ.F p) (ho : Mut (some o)) : Rel K φ s (upd H p o) where
  inj := r.inj
  cell := fun i c e => by
    have hi := (List.getElem?_eq_some_iff.mp e).1
    have h := r.cell i c e
    exact h.updF (r.fo p hf).1 hf ((r.fo p hf).2 i hi)
  fo := fun a h => by
    refine ⟨?_, (r.fo a h).2⟩
    by_cases e : a = p
    · subst e; rw [upd_same]; exact ho
    · rw [upd_ne e]; exact (r.fo a h).1
  tab := fun P h => tabG_mut (r.tab P h) (r.fo p hf).1
/-- fewer addresses of others -/
def lessF (φ : Ph) (F : Addr → Prop) : Ph := ⟨φ.f, F⟩
mutual
theorem RV.less {F : Addr → Prop} (hF : ∀ a, F a → φ.F a) : ∀ (d : D) {v : V}, RV K φ n H v d → RV K (lessF φ F) n H v d
  | .non, _, h => by cases h; exact .non
  | .bl b, _, h => by cases h; exact .bl b
  | .int i, _, h => by cases h; exact .int i
  | .str y, _, h => by cases h with
    | str _ q => exact .str y q
  | .ref i, _, h => by cases h with
    | ref _ q => exact RV.ref (φ := lessF φ F) i q
  | .tup ds, _, h => by cases h with
    | tup q r => exact .tup q (RVs.less hF ds r)
  | .lst ds, _, h => by cases h with
    | lst q nc nf r => exact .lst q nc (fun e => nf (hF _ e)) (RVs.less hF ds r)
  | .rol ds, _, h => by cases h with
    | rol q r => exact .rol q (RVs.less hF ds r)
theorem RVs.less {F : Addr → Prop} (hF : ∀ a, F a → φ.F a) : ∀ (ds : List D) {vs : List V}, RVs K φ n H vs ds → RVs K (lessF φ F) n H vs ds
  | [], _, h => by cases h; exact .nil
  | d :: ds, _, h => by cases h with
    | cons h r => exact .cons (RV.less hF d h) (RVs.less hF ds r)
end
theorem CellR.less {F : Addr → Prop} (hF : ∀ a, F a → φ.F a) {c : C} (h : CellR K φ n H a c) : CellR K (lessF φ F) n H a c := by
  cases c with
  | lst ds =>
    obtain ⟨vs, h1, h2⟩ := h
    exact ⟨vs, h1, h2.less hF⟩
  | dct kvs =>
    rcases h with ⟨xs, h1, h2⟩ | ⟨xs, h1, h2, h3⟩
    · exact .inl ⟨xs, h1, Paired.mapP h2 fun p q z => ⟨z.1.less hF, z.2.less hF⟩⟩
    · exact .inr ⟨xs, h1, Paired.mapP h2 fun p q z => ⟨z.1, z.2.1, z.2.2.1.less hF, z.2.2.2.less hF⟩, h3⟩
  | ins _ _ => exact h.elim
theorem Rel.less {F : Addr → Prop} (r : Rel K φ s H) (hF : ∀ a, F a → φ.F a) : Rel K (lessF φ F) s H where
  inj := r.inj
  cell := fun i c e => by
    have h := r.cell i c e
    exact h.less hF
  fo := fun a h => r.fo a (hF a h)
  tab := r.tab
end
end Kp

/-! Kp, part C: operations by values. Own work. -/
namespace Kp
open PySem PySem.Spec PyProof.Rows L2

theorem bd_inv {α β : Type} {x : Option (α × S)} {f : α → S → Option (β × S)} {p : β × S} (h : bd x f = some p) : ∃ a s1, x = some (a, s1) ∧ f a s1 = some p := by
  cases x with
  | none => cases h
  | some q => exact ⟨q.1, q.2, rfl, h⟩
theorem lim_le : lim ≤ sizeLine := by decide
theorem lim_lt {n : Nat} (h : n ≤ lim) : n ≤ sizeLine := Nat.le_trans h lim_le

def PostE (K : Kq) (φ : Ph) (n : Nat) (H : Hp) (d : D) (s' : S) (Q : VK) : Prop :=
  ∀ v H' φ', Ext φ n H φ' s'.length H' → Rel K φ' s' H' → RV K φ' s'.length H' v d → Q v H'

section
variable {K : Kq} {φ φ1 : Ph} {s s1 : S} {H H1 : Hp} {n n1 : Nat} {v : V} {d : D} {ds : List D} {Q : VK}
theorem PostE.now (r : Rel K φ s H) (h : PostE K φ s.length H d s Q) (hv : RV K φ s.length H v d) : Q v H := h v H φ Ext.refl r hv
/-- behind an extension -/
theorem PostE.ext {s' : S} (x : Ext φ n H φ1 s1.length H1) (r : Rel K φ1 s1 H1) (h : PostE K φ n H d s' Q) : PostE K φ1 s1.length H1 d s' Q :=
  fun v H' φ' x' r' hv => h v H' φ' (x.trans r.cm x') r' hv
theorem rol_sq {a : Addr} {vs : List V} (q : (∃ o, H a = some (.frz o (.lst vs))) ∨ SqL K (fun _ => none) a vs) : SqL K H a vs := by
  rcases q with ⟨o, q⟩ | q | q
  · exact .inl (.inr ⟨o, q⟩)
  · rcases q with q | ⟨o, q⟩ <;> cases q
  · exact .inr q
theorem lstOf_rel (r : Rel K φ s H) (h : RV K φ s.length H v d) (e : lstOf s d = some ds) : ∃ p vs, v = .ref p ∧ H p = some (.lst vs) ∧ RVs K φ s.length H vs ds := by
  cases h with
  | lst q _ _ rr => cases e; exact ⟨_, _, rfl, q, rr⟩
  | ref i hi =>
    unfold lstOf at e
    cases hc : s[i]? with
    | none => simp [hc] at e
    | some c =>
      have q := r.cell i c hc
      cases c with
      | lst es =>
        simp [hc] at e
        subst e
        obtain ⟨vs, q1, q2⟩ := q
        exact ⟨_, vs, rfl, q1, q2⟩
      | dct _ => simp [hc] at e
      | ins _ _ => exact q.elim
  | _ => cases e
theorem seqOf_rel (r : Rel K φ s H) (h : RV K φ s.length H v d) (e : seqOf s d = some ds) : ∃ p vs, v = .ref p ∧ (SqL K H p vs ∨ SqT K H p vs) ∧ RVs K φ s.length H vs ds := by
  cases h with
  | tup q rr => cases e; exact ⟨_, _, rfl, .inr q, rr⟩
  | rol q rr =>
    cases e
    exact ⟨_, _, rfl, .inl (rol_sq q), rr⟩
  | lst q nc _ rr =>
    cases e
    exact ⟨_, _, rfl, .inl (SqL.of q), rr⟩
  | ref i hi =>
    obtain ⟨p, vs, e1, e2, e3⟩ := lstOf_rel r (RV.ref i hi) (show lstOf s (.ref i) = some ds from e)
    exact ⟨p, vs, e1, .inl (SqL.of e2), e3⟩
  | _ => cases e
/-- a new list -/
theorem newL_post {mu : Bool} {vs : List V} {s' : S} (r : Rel K φ s H) (hv : RVs K φ s.length H vs ds) (e : newL mu ds s = some (d, s')) (h : PostE K φ s.length H d s' Q) :
    vs.length ≤ sizeLine ∧ ∀ p, H p = none → Q (.ref p) (upd H p (.lst vs)) := by
  unfold newL at e
  by_cases hl : ds.length ≤ lim
  · rw [if_pos hl] at e
    refine ⟨by rw [hv.length]; exact lim_lt hl, fun p hp => ?_⟩
    cases mu with
    | true =>
      simp only [if_true, Option.some.injEq, Prod.mk.injEq] at e
      obtain ⟨rfl, rfl⟩ := e
      have x : Ext φ s.length H (addC φ s.length p) (s ++ [C.lst ds]).length (upd H p (.lst vs)) := by
        rw [List.length_append]; exact Ext.cell hp
      refine h _ _ _ x (r.newC hp hv) ?_
      have e1 : (addC φ s.length p) s.length = p := addC_eq
      have q : RV K (addC φ s.length p) (s ++ [C.lst ds]).length (upd H p (.lst vs)) (.ref (addC φ s.length p s.length)) (.ref s.length) := .ref s.length (by simp)
      rw [e1] at q
      exact q
    | false =>
      simp only [Bool.false_eq_true, if_false, Option.some.injEq, Prod.mk.injEq] at e
      obtain ⟨rfl, rfl⟩ := e
      refine h _ _ φ (Ext.obj hp) (r.obj hp) (.lst upd_same (fun i hi ee => ?_) (fun z => ?_) (hv.mono r.cm (Ext.obj hp)))
      · have z := r.cm i hi
        rw [ee, hp] at z
        exact z
      · have z := (r.fo _ z).1
        rw [hp] at z
        exact z
  · rw [if_neg hl] at e
    cases e
theorem newT_post {vs : List V} {s' : S} (r : Rel K φ s H) (hv : RVs K φ s.length H vs ds) (e : newT ds s = some (d, s')) (h : PostE K φ s.length H d s' Q) :
    vs.length ≤ sizeLine ∧ ∀ p, H p = none → Q (.ref p) (upd H p (.tup vs)) := by
  unfold newT at e
  by_cases hl : ds.length ≤ lim
  · rw [if_pos hl] at e
    cases e
    exact ⟨by rw [hv.length]; exact lim_lt hl, fun p hp => h _ _ φ (Ext.obj hp) (r.obj hp) (.tup (SqT.of upd_same) (hv.mono r.cm (Ext.obj hp)))⟩
  · rw [if_neg hl] at e
    cases e
/-- a cell is written -/
theorem Ext.wr (cm : CM φ n H) {i : Nat} {o : HO} (hi : i < n) : Ext φ n H φ n (upd H (φ i) o) :=
  ⟨Nat.le_refl _, fun _ _ => rfl, fun j h1 h2 => absurd h1 (by omega), fun a u h _ hn => by rw [upd_ne (hn i hi).symm]; exact h, fun a ps h => ⟨ps, by rw [upd_ne fun e => by have z := cm i hi; rw [← e, h] at z; exact z]; exact h⟩, fun _ h => h, fun _ h => .inl h⟩
theorem Rel.write' (r : Rel K φ s H) {i : Nat} {o : HO} {c' : C} (hi : i < s.length) (hv : CellR K φ s.length (upd H (φ i) o) (φ i) c') :
    Ext φ s.length H φ (s.set i c').length (upd H (φ i) o) ∧ Rel K φ (s.set i c') (upd H (φ i) o) := by
  have x : Ext φ s.length H φ s.length (upd H (φ i) o) := Ext.wr r.cm hi
  refine ⟨by rw [List.length_set]; exact x, fun a b ha hb => by rw [List.length_set] at ha hb; exact r.inj a b ha hb, fun j c e => ?_, fun a h => ⟨by rw [upd_ne ((r.fo a h).2 i hi).symm]; exact (r.fo a h).1, fun j hj => (r.fo a h).2 j (by rw [List.length_set] at hj; exact hj)⟩, fun P h => tabG_mut (r.tab P h) (r.cm i hi)⟩
  rw [List.length_set]
  by_cases hj : j = i
  · subst hj
    rw [List.getElem?_set_self hi] at e
    cases e
    exact hv
  · rw [List.getElem?_set_ne (Ne.symm hj)] at e
    have hjl : j < s.length := (List.getElem?_eq_some_iff.mp e).1
    exact (r.cell j c e).mono r.cm x (upd_ne fun z => hj (r.inj j i hjl hi z))
theorem Rel.write (r : Rel K φ s H) {i : Nat} {vs : List V} (hi : i < s.length) (hv : RVs K φ s.length H vs ds) :
    Ext φ s.length H φ (s.set i (.lst ds)).length (upd H (φ i) (.lst vs)) ∧ Rel K φ (s.set i (.lst ds)) (upd H (φ i) (.lst vs)) :=
  r.write' hi ⟨vs, upd_same, hv.mono r.cm (Ext.wr r.cm hi)⟩
/-- truth -/
theorem tru_rel (r : Rel K φ s H) (h : RV K φ s.length H v d) {b : Bool} (e : truD s d = some b) : TruV K v H b := by
  cases h with
  | non => cases e; rfl
  | bl b => cases e; rfl
  | int i => cases e; rfl
  | str x hx =>
    unfold truD at e
    by_cases hl : x.length ≤ lim
    · simp only [hl, if_true, Option.some.injEq] at e
      subst e
      exact ⟨lim_lt hl, rfl⟩
    · simp [hl] at e
  | tup q rr =>
    cases e
    refine .inr (.inl ⟨_, q, ?_⟩)
    cases rr <;> rfl
  | lst q nc _ rr =>
    cases e
    refine .inl ⟨_, SqL.of q, ?_⟩
    cases rr <;> rfl
  | rol q rr =>
    cases e
    refine .inl ⟨_, rol_sq q, ?_⟩
    cases rr <;> rfl
  | ref i hi =>
    unfold truD at e
    cases hc : s[i]? with
    | none => simp [hc] at e
    | some c =>
      have q := r.cell i c hc
      cases c with
      | lst es =>
        simp only [hc, Option.some.injEq] at e
        subst e
        obtain ⟨vs, q1, q2⟩ := q
        refine .inl ⟨vs, SqL.of q1, ?_⟩
        cases q2 <;> rfl
      | dct _ => simp [hc] at e
      | ins _ _ => exact q.elim
end

/-! ### two-place operators -/
/-- an operation on two data -/
def OpS (X : Cx) (f : Value → Value → Sem Value) (g : D → D → S → Option (D × S)) : Prop :=
  ∀ {τ : List Addr} (pins : List (Addr × Obj)) (sh : Shared) (σ : L2.St) (H : Hp) (x y : V) (v u : Value) (Q : VK) (φ : Ph) (s : S) (d e d' : D) (s' : S), Inv X pins σ H sh → RelV x v → RelV y u →
    Rel (qx X τ) φ s H → RV (qx X τ) φ s.length H x d → RV (qx X τ) φ s.length H y e → g d e s = some (d', s') → PostE (qx X τ) φ s.length H d' s' Q → wpAny (model X.prog X.w) X.A (f v u) (EP X pins σ Q) X.xe sh
section
variable {X : Cx}
theorem bin_lists {mu : Bool} {d e d' : D} {s s' : S} (h : (match lstOf s d, lstOf s e with
    | some a, some b => newL mu (a ++ b) s
    | _, _ => none) = some (d', s')) : ∃ a b, lstOf s d = some a ∧ lstOf s e = some b ∧ newL mu (a ++ b) s = some (d', s') := by
  cases h1 : lstOf s d with
  | none => simp [h1] at h
  | some a => cases h2 : lstOf s e with
    | none => simp [h1, h2] at h
    | some b => simp [h1, h2] at h; exact ⟨a, b, rfl, rfl, h⟩
theorem allOk_app {i j : Str} (h1 : i.cps.all (· < 0x110000) = true) (h2 : j.cps.all (· < 0x110000) = true) : (i ++ j).cps.all (· < 0x110000) = true := by
  have e : (i ++ j).cps = i.cps ++ j.cps := rfl
  rw [e, Array.all_append, h1, h2] <;> rfl
theorem os_add {mu : Bool} : OpS X (binaryOp .Add) (binD (.add mu)) := by
  intro τ pins sh σ H x y v u Q φ s d e d' s' I rx ry r hx hy h hq
  have lists : (match lstOf s d, lstOf s e with
    | some a, some b => newL mu (a ++ b) s
    | _, _ => none) = some (d', s') → wpAny (model X.prog X.w) X.A (binaryOp .Add v u) (EP X pins σ Q) X.xe sh := fun h => by
    obtain ⟨a, b, h1, h2, h3⟩ := bin_lists h
    obtain ⟨p, vs, rfl, q1, q2⟩ := lstOf_rel r hx h1
    obtain ⟨p', vs', rfl, q1', q2'⟩ := lstOf_rel r hy h2
    obtain ⟨z, k⟩ := newL_post r (q2.append q2') h3 hq
    exact op_cat pins sh σ H _ _ v u Q I rx ry ⟨p, p', vs, vs', rfl, rfl, q1, q1', by rw [List.length_append] at z; exact z, k⟩
  cases d with
  | int i =>
    cases e with
    | int j =>
      cases hx; cases hy; cases h
      exact op_add pins sh σ H _ _ v u Q I rx ry ⟨i, j, rfl, rfl, hq.now r (.int _)⟩
    | _ => exact lists h
  | str i =>
    cases e with
    | str j =>
      cases hx with
      | str _ o1 =>
        cases hy with
        | str _ o2 =>
          have h : (if i.length + j.length ≤ lim then some (D.str (i ++ j), s) else none) = some (d', s') := h
          by_cases hl : i.length + j.length ≤ lim
          · rw [if_pos hl] at h
            cases h
            exact op_add_str pins sh σ H _ _ v u Q I rx ry ⟨i, j, rfl, rfl, lim_lt hl, hq.now r (.str _ (allOk_app o1 o2))⟩
          · rw [if_neg hl] at h
            cases h
    | _ => exact lists h
  | tup a =>
    cases e with
    | tup b =>
      cases hx with
      | tup q1 r1 =>
        cases hy with
        | tup q2 r2 =>
          have h : (if a.length + b.length ≤ lim then some (D.tup (a ++ b), s) else none) = some (d', s') := h
          by_cases hl : a.length + b.length ≤ lim
          · rw [if_pos hl] at h
            cases h
            refine op_catA pins sh σ H _ _ v u Q I rx ry ⟨_, _, _, _, rfl, rfl, q1, q2, by rw [r1.length, r2.length]; exact lim_lt hl, fun z => ?_, fun _ z => ?_, fun _ _ p hp => ?_⟩
            · subst z
              cases r1
              exact hq.now r (.tup q2 r2)
            · subst z
              cases r2
              rw [List.append_nil] at hq
              exact hq.now r (.tup q1 r1)
            · exact hq _ _ φ (Ext.obj hp) (r.obj hp) (.tup (SqT.of upd_same) ((r1.append r2).mono r.cm (Ext.obj hp)))
          · rw [if_neg hl] at h
            cases h
    | _ => exact lists h
  | _ => exact lists h
theorem os_sub : OpS X (binaryOp .Sub) (binD .sub) := by
  intro τ pins sh σ H x y v u Q φ s d e d' s' I rx ry r hx hy h hq
  cases d with
  | int i =>
    cases e with
    | int j =>
      cases hx; cases hy; cases h
      exact op_sub pins sh σ H _ _ v u Q I rx ry ⟨i, j, rfl, rfl, hq.now r (.int _)⟩
    | _ => cases h
  | _ => cases h
theorem smallI_ok {i j : Int} (h : (smallI i || smallI j) = true) : CMul i j := by
  rcases Bool.or_eq_true_iff.mp h with h | h
  · exact .inl (of_decide_eq_true h)
  · exact .inr (of_decide_eq_true h)
theorem os_mul {mu : Bool} : OpS X (binaryOp .Mult) (binD (.mul mu)) := by
  intro τ pins sh σ H x y v u Q φ s d e d' s' I rx ry r hx hy h hq
  have lists : ∀ k, e = .int k → (match lstOf s d with
    | some a => if 0 ≤ k ∧ k ≤ 1000 ∧ a.length ≤ 100 then newL mu (List.replicate k.toNat a).flatten s else none
    | none => none) = some (d', s') → wpAny (model X.prog X.w) X.A (binaryOp .Mult v u) (EP X pins σ Q) X.xe sh := fun k ek g => by
    subst ek
    cases hy
    revert g
    cases h1 : lstOf s d with
    | none => intro g; cases g
    | some a =>
      intro g
      have h : (if 0 ≤ k ∧ k ≤ 1000 ∧ a.length ≤ 100 then newL mu (List.replicate k.toNat a).flatten s else none) = some (d', s') := g
      by_cases hl : 0 ≤ k ∧ k ≤ 1000 ∧ a.length ≤ 100
      · rw [if_pos hl] at h
        obtain ⟨p, vs, rfl, q1, q2⟩ := lstOf_rel r hx h1
        obtain ⟨z, kk⟩ := newL_post r (q2.rep k.toNat) h hq
        refine op_rep pins sh σ H _ _ v u Q I rx ry ⟨p, k, vs, rfl, rfl, q1, by omega, by omega, ?_, kk⟩
        rw [PyProof.Rows.lm_len_rep_flat, Nat.mul_comm] at z
        exact z
      · rw [if_neg hl] at h
        cases h
  cases e with
  | int k =>
    cases d with
    | int i =>
      cases hx; cases hy
      have h : (if smallI i || smallI k then some (D.int (i * k), s) else none) = some (d', s') := h
      by_cases hl : (smallI i || smallI k) = true
      · rw [if_pos hl] at h
        cases h
        exact op_mul pins sh σ H _ _ v u Q I rx ry ⟨i, k, rfl, rfl, smallI_ok hl, hq.now r (.int _)⟩
      · rw [if_neg hl] at h
        cases h
    | tup a =>
      cases hx with
      | tup q1 r1 =>
        cases hy
        have h : (if a ≠ [] ∧ 2 ≤ k ∧ k ≤ 1000 ∧ a.length ≤ 1000 then some (D.tup (List.replicate k.toNat a).flatten, s) else none) = some (d', s') := h
        by_cases hl : a ≠ [] ∧ 2 ≤ k ∧ k ≤ 1000 ∧ a.length ≤ 1000
        · rw [if_pos hl] at h
          cases h
          obtain ⟨l1, l2, l3, l4⟩ := hl
          refine op_repT pins sh σ H _ _ v u Q I rx ry ⟨_, k, _, rfl, rfl, q1, fun z => ?_, l2, l3, by rw [r1.length]; exact l4, fun p hp => ?_⟩
          · subst z
            cases r1
            exact l1 rfl
          · exact hq _ _ φ (Ext.obj hp) (r.obj hp) (.tup (SqT.of upd_same) ((r1.rep _).mono r.cm (Ext.obj hp)))
        · rw [if_neg hl] at h
          cases h
    | _ => exact lists k rfl h
  | _ => cases d <;> cases h
theorem os_mod : OpS X (binaryOp .Mod) (binD .mod) := by
  intro τ pins sh σ H x y v u Q φ s d e d' s' I rx ry r hx hy h hq
  cases d with
  | int i =>
    cases e with
    | int j =>
      cases hx; cases hy
      have h : (if 0 < j then some (D.int (i % j), s) else none) = some (d', s') := h
      by_cases hl : 0 < j
      · rw [if_pos hl] at h
        cases h
        exact op_mod pins sh σ H _ _ v u Q I rx ry ⟨i, j, rfl, rfl, hl, hq.now r (.int _)⟩
      · rw [if_neg hl] at h
        cases h
    | _ => cases h
  | _ => cases h
theorem os_fdiv : OpS X (binaryOp .FloorDiv) (binD .fdiv) := by
  intro τ pins sh σ H x y v u Q φ s d e d' s' I rx ry r hx hy h hq
  cases d with
  | int i =>
    cases e with
    | int j =>
      cases hx; cases hy
      have h : (if 0 < j ∧ j < 1073741824 then some (D.int (i / j), s) else none) = some (d', s') := h
      by_cases hl : 0 < j ∧ j < 1073741824
      · rw [if_pos hl] at h
        cases h
        exact op_fdiv pins sh σ H _ _ v u Q I rx ry ⟨i, j, rfl, rfl, hl, hq.now r (.int _)⟩
      · rw [if_neg hl] at h
        cases h
    | _ => cases h
  | _ => cases h
theorem os_pow : OpS X (binaryOp .Pow) (binD .pow) := by
  intro τ pins sh σ H x y v u Q φ s d e d' s' I rx ry r hx hy h hq
  cases d with
  | int i =>
    cases e with
    | int j =>
      cases hx; cases hy
      have h : (if 0 ≤ j ∧ j ≤ 1000 ∧ smallI i then some (D.int (i ^ j.toNat), s) else none) = some (d', s') := h
      by_cases hl : 0 ≤ j ∧ j ≤ 1000 ∧ smallI i
      · rw [if_pos hl] at h
        cases h
        have hs : -(2 ^ 64) < i ∧ i < 2 ^ 64 := of_decide_eq_true hl.2.2
        exact op_pow pins sh σ H _ _ v u Q I rx ry ⟨i, j, rfl, rfl, ⟨hl.1, by omega, by omega⟩, hq.now r (.int _)⟩
      · rw [if_neg hl] at h
        cases h
    | _ => cases h
  | _ => cases h
end
end Kp

/-! Ks, part A: sorting tuples of which some are empty. Own work. -/
namespace Kp
open PySem PySem.W PySem.Calls PyProof.Rows PySem.SeqAt

theorem each_right {α β : Type} {R : α → β → Prop} : ∀ {as : List α} {bs : List β}, EachIs R as bs → ∀ b ∈ bs, ∃ a ∈ as, R a b
  | _, _, .nil, b, h => by cases h
  | _, _, .cons r t, b, h => by
    rcases List.mem_cons.mp h with e | h
    · rw [e]; exact ⟨_, List.mem_cons_self, r⟩
    · obtain ⟨a, ha, q⟩ := each_right t b h
      exact ⟨a, List.mem_cons_of_mem _ ha, q⟩
section
variable {prog : Program} {w : World} {A : Around} {s : Shared}
theorem firsts_tups {M : Model} : ∀ {vs : List Value} {ds : List PyData}, EachIs (fun v d => ∃ as, Reads s.heap v d as) vs ds → (∀ d ∈ ds, ∃ xs, d = .tuple xs) →
    ∃ fs : List (Option Value), EachIs (fun (f : Option Value) (d : PyData) => f.isSome = true ↔ d ≠ .tuple []) fs ds ∧ ∀ {E : Value → Shared → Prop} {Q : List (Option Value) → Shared → Prop}, Q fs s → wpAny M A (vs.mapM firstOfTuple') Q E s
  | _, _, .nil, _ => ⟨[], .nil, fun h => by rw [List.mapM_nil]; exact wpAny_pure h⟩
  | v :: vs, d :: ds, .cons ⟨as, r⟩ t, ht => by
    obtain ⟨fs, h1, h2⟩ := firsts_tups (M := M) t fun d hd => ht d (List.mem_cons_of_mem _ hd)
    obtain ⟨xs, rfl⟩ := ht d List.mem_cons_self
    cases r with
    | @tuple a o its n _ _ ho hc hd hr =>
      refine ⟨its[0]? :: fs, .cons ?_ h1, fun {E Q} h => ?_⟩
      · cases q : its.toList with
        | nil =>
          rw [q] at hr
          cases hr
          have e : its[0]? = none := by rw [← Array.getElem?_toList, q]; rfl
          rw [e]
          exact ⟨(fun z => nomatch z), fun z => absurd rfl z⟩
        | cons f fr =>
          rw [q] at hr
          cases hr with
          | cons r1 r2 =>
            have e : its[0]? = some f := by rw [← Array.getElem?_toList, q]; rfl
            rw [e]
            exact ⟨fun _ z => (by cases z), fun _ => rfl⟩
      · rw [List.mapM_cons]
        refine wpAny_bind ?_
        rw [kas_first_eq]
        refine wpAny_bind (Looks.here (show Looks M s.heap (typeOf (.ref a)) o.cls from (Looks.ld ho).andThen .now) ?_)
        rw [hc, if_neg (by first | decide | simp)]
        refine wpAny_bind (listItems_at ho hd (wpAny_pure ?_))
        exact wpAny_bind (h2 (Q := fun bs s' => wpAny M A (pure (its[0]? :: bs)) Q E s') (wpAny_pure h))
theorem oneLt_tups {xs ys : List PyData} {a b : Value} {as bs : List Addr} {E : Value → Shared → Prop} {Q : Bool → Shared → Prop} (ra : Reads s.heap a (.tuple xs) as) (rb : Reads s.heap b (.tuple ys) bs) (hal : alikeAll xs ys = true)
    (hu : A.units + min (PyData.tuple xs).depth (PyData.tuple ys).depth < cLine) (hq : Q (dataLt (.tuple xs) (.tuple ys)) s) : wpAny (model prog w) A (oneLt' true a b) Q E s := by
  cases ra with
  | @tuple l o vs n _ _ h1 h2 h3 h4 =>
    cases rb with
    | @tuple l' o' vs' n' _ _ k1 k2 k3 k4 =>
      have n1 : vs.size = xs.length := by simpa using ReadsAll.length _ _ _ h4
      have n2 : vs'.size = ys.length := by simpa using ReadsAll.length _ _ _ k4
      rw [dataLt_tuple, ← firstLt_toks xs ys hal, ← n1, ← n2] at hq
      obtain ⟨cls, dd, data, sl⟩ := o
      obtain ⟨cls2, dd2, data2, sl2⟩ := o'
      simp only at h2 h3 k2 k3
      subst h2 h3 k2 k3
      rw [oneLt'_eq]
      simp only [if_true]
      refine wpAny_bind (wpAny_cRoomFor (room_here hu) ?_)
      refine wpAny_bind (wpAny_callSpecialIfBound?_slot (T := "tuple") ⟨_, h1, rfl⟩ PySem.F.slot_tuple_lt (call_meets PySem.F.slot_tuple_lt ⟨_, h1, rfl⟩ PySem.F.entry_tuple_lt (PySem.F.args_tuple_lt_2 _ _) (tuple_ltAt l l' vs vs' n n' dd dd2 sl sl2 (pairEq xs ys) (fun j => dataLt (xs.getD j .none) (ys.getD j .none)))
        ⟨h1, k1, fun j j1 j2 => ?_, fun j j1 j2 hj => ?_, ?_⟩))
      · have := eqAt_alikeAll xs ys A.in1 s vs.toList vs'.toList _ _ h4 k4 hal (room_in hu) j (by simpa using j1) (by simpa using j2)
        simpa using this
      · have := rcLt_alikeAll xs ys A.in1 s vs.toList vs'.toList _ _ h4 k4 hal (room_in hu) j (by simpa using j1) (by simpa using j2) hj
        simpa using this
      · exact wpAny_truthy_bool hq
theorem general_eq (x y : Value) : keyLt' general' x y = oneLt' false x y := rfl
/-- tuples of which one is empty can be sorted -/
theorem sorts_tups {vs : List Value} {ds : List PyData} (e : EachIs (fun v d => ∃ as, Reads s.heap v d as) vs ds) (hal : AllAlike ds) (ht : ∀ d ∈ ds, ∃ xs, d = .tuple xs) (he : .tuple [] ∈ ds) (hu : ∀ d, d ∈ ds → A.units + d.depth < cLine) : SortsAt prog w A s (dataKind s.heap ds) vs := by
  have room : ∀ {d d' : PyData}, d ∈ ds → A.units + min d.depth d'.depth < cLine := fun {d d'} hd => Nat.lt_of_le_of_lt (Nat.add_le_add_left (Nat.min_le_left _ _) _) (hu d hd)
  refine ⟨fun v hv => ?_, ?_⟩
  · obtain ⟨d, hd, as, r⟩ := e.left v hv
    exact ⟨_, dataKind_some hal hd r⟩
  · obtain ⟨fs, f1, f2⟩ := firsts_tups (M := model prog w) (A := A) e ht
    have notall : (fs.toArray.all fun x => x.isSome) = false := by
      rw [Bool.eq_false_iff]
      intro z
      simp only [List.all_toArray, List.all_eq_true] at z
      obtain ⟨f, hf, g⟩ := each_right f1 _ he
      exact g.mp (z f hf) rfl
    cases ds with
    | nil => cases he
    | cons d₀ ds₀ =>
      cases f1 with
      | @cons f _ fr _ g t =>
        by_cases hd0 : d₀ = .tuple []
        · have hf : f = none := by
            cases f with
            | none => rfl
            | some x => exact absurd hd0 (g.mp rfl)
          subst hf
          refine ⟨oneType', fun E x y a b Q ha hb hq => ?_, fun h2 E Q hq => ?_⟩
          · obtain ⟨d, as, hd, ra, rfl⟩ := dataKind_inv ha
            obtain ⟨d', as', hd', rb, rfl⟩ := dataKind_inv hb
            rw [keyLt'_oneType]
            have hroom := room (d' := d') hd
            have hh := hal d hd d' hd'
            obtain ⟨xs, rfl⟩ := ht d hd
            obtain ⟨ys, rfl⟩ := ht d' hd'
            exact oneLt_tups ra rb (by simpa [alike] using hh) hroom hq
          · rw [keyKind'_eq, List.mapM_toArray, map_eq_pure_bind]
            refine wpAny_bind (wpAny_bind (f2 (wpAny_pure ?_)))
            rw [if_neg (by rw [notall]; exact Bool.false_ne_true), if_neg (by simp)]
            rw [oneTypeOnly'_eq, List.mapM_toArray, map_eq_pure_bind]
            refine wpAny_bind (wpAny_bind (wpAny_bind (kas_mapM (r := Value.type "tuple") _ (fun v hv Q' hq' => ?_) (wpAny_pure ?_))))
            · obtain ⟨d, hd, as, r⟩ := e.left v hv
              obtain ⟨xs, rfl⟩ := ht d hd
              exact (looks_reads (M := model prog w) r).here hq'
            · have hv : ∃ v vs', vs = v :: vs' := by
                cases vs with
                | nil => simp at h2
                | cons v vs' => exact ⟨v, vs', rfl⟩
              obtain ⟨v, vs', rfl⟩ := hv
              have hall : ((List.map (fun _ => Value.type "tuple") (v :: vs')).toArray.all fun x => x == Value.type "tuple") = true := by
                simp only [List.all_toArray, List.all_map, List.all_eq_true]
                intro _ _
                exact beq_self_eq_true _
              have h0 : (List.map (fun _ => Value.type "tuple") (v :: vs')).toArray[0]? = some (Value.type "tuple") := by simp
              rw [h0]
              simp only [hall, if_true]
              exact wpAny_pure (wpAny_pure hq)
        · have hf : ∃ x, f = some x := Option.isSome_iff_exists.mp (g.mpr hd0)
          obtain ⟨x, rfl⟩ := hf
          refine ⟨general', fun E x y a b Q ha hb hq => ?_, fun h2 E Q hq => ?_⟩
          · obtain ⟨d, as, hd, ra, rfl⟩ := dataKind_inv ha
            obtain ⟨d', as', hd', rb, rfl⟩ := dataKind_inv hb
            rw [general_eq]
            have hh := hal d hd d' hd'
            obtain ⟨xs, rfl⟩ := ht d hd
            exact oneLt_alike (fun z => nomatch z) ra rb hh (fun z => nomatch z) (room hd) hq
          · rw [keyKind'_eq, List.mapM_toArray, map_eq_pure_bind]
            refine wpAny_bind (wpAny_bind (f2 (wpAny_pure ?_)))
            rw [if_neg (by rw [notall]; exact Bool.false_ne_true), if_pos (by simp)]
            exact wpAny_pure hq
variable {E : Value → Shared → Prop} {β : Type} {vs : List Value} {bs : List β} {enc : β → PyData} {R : Value → β → Prop}
theorem sorted_tups {l : Addr} {Q : Value → Shared → Prop} (hl : s.heap.IsList l vs.toArray) (e : EachIs R vs bs) (er : EachIs (fun v b => ∃ as, Reads s.heap v (enc b) as) vs bs) (hal : AllAlike (bs.map enc)) (ht : ∀ b ∈ bs, ∃ xs, enc b = .tuple xs) (he : .tuple [] ∈ bs.map enc) (hL : bs.length ≤ sizeLine)
    (hu : ∀ b, b ∈ bs → A.units + 2 + (enc b).depth < cLine) (h : ∀ out, out.length = bs.length → EachIs R out (bs.mergeSort (dataLe false enc)) → Q (.ref (s.heap.objs.size + 1)) { s with heap := sortedAll s.heap vs (List.toArray out) }) :
    wpAny (model prog w) A (call (.builtin "sorted") [.ref l]) Q E s := by
  have there : EachIs (fun v b => ∃ as, Reads (sortingHeap (copyHeap s.heap vs) (s.heap.objs.size + 1) vs) v (enc b) as) vs bs := er.mono fun _ _ ⟨as, r⟩ => ⟨as, PyProof.Rows.Reads.keeps (fun _ _ => sorting_copy_old) r⟩
  refine sorted_vals hl (sorts_tups (s := { s with heap := sortingHeap (copyHeap s.heap vs) (s.heap.objs.size + 1) vs }) (each_map (R := fun v d => ∃ as, Reads (sortingHeap (copyHeap s.heap vs) (s.heap.objs.size + 1) vs) v d as) enc there) hal (fun d hd => ?_) he (bound_map hu)) (by rw [e.length]; exact hL) ?_
  · obtain ⟨b, hb, rfl⟩ := List.mem_map.mp hd
    exact ht b hb
  · exact h _ (by rw [sortVals_length false rfl]; exact e.length) (sortVals_data false e there hal)
end
end Kp

/-! Kd, part A: dicts by data. Own work. -/
namespace Kp
open PySem PySem.Spec PyProof.Rows L2

mutual
theorem nk_inj : ∀ a b : D, kNst a = true → kNst b = true → nk a = nk b → a = b
  | .non, b, _, hb, h => by cases b <;> first | rfl | (cases h; done) | (cases hb; done)
  | .int i, b, _, hb, h => by cases b <;> first | (cases h; rfl) | (cases h; done) | (cases hb; done)
  | .str i, b, _, hb, h => by cases b <;> first | (cases h; rfl) | (cases h; done) | (cases hb; done)
  | .tup ds, b, ha, hb, h => by
    cases b with
    | tup es =>
      have h : NestedKey.tup (nks ds) = .tup (nks es) := h
      injection h with h
      rw [nks_inj ds es ha hb h]
    | _ => first | (cases h; done) | (cases hb; done)
  | .bl _, _, ha, _, _ => by cases ha
  | .lst _, _, ha, _, _ => by cases ha
  | .ref _, _, ha, _, _ => by cases ha
  | .rol _, _, ha, _, _ => by cases ha
theorem nks_inj : ∀ a b : List D, kNsts a = true → kNsts b = true → nks a = nks b → a = b
  | [], b, _, _, h => by cases b <;> first | rfl | (cases h; done)
  | x :: xs, b, ha, hb, h => by
    cases b with
    | nil => cases h
    | cons y ys =>
      have ha : (kNst x && kNsts xs) = true := ha
      have hb : (kNst y && kNsts ys) = true := hb
      rw [Bool.and_eq_true] at ha hb
      have h : nk x :: nks xs = nk y :: nks ys := h
      injection h with h1 h2
      rw [nk_inj x y ha.1 hb.1 h1, nks_inj xs ys ha.2 hb.2 h2]
end
mutual
theorem nk_depth : ∀ a : D, kNst a = true → (nk a).depth = dep a
  | .non, _ => rfl
  | .int _, _ => rfl
  | .str _, _ => rfl
  | .tup ds, h => by show NestedKey.depthAll (nks ds) + 1 = deps ds + 1; rw [nks_depth ds h]
  | .bl _, h => by cases h
  | .lst _, h => by cases h
  | .ref _, h => by cases h
  | .rol _, h => by cases h
theorem nks_depth : ∀ a : List D, kNsts a = true → NestedKey.depthAll (nks a) = deps a
  | [], _ => rfl
  | x :: xs, h => by
    have h : (kNst x && kNsts xs) = true := h
    rw [Bool.and_eq_true] at h
    show max (nk x).depth (NestedKey.depthAll (nks xs)) = max (dep x) (deps xs)
    rw [nk_depth x h.1, nks_depth xs h.2]
end
theorem kTp_ok {d : D} (h : kTp d = true) : kNst d = true ∧ (nk d).depth ≤ 8 ∧ kIn d = false := by
  cases d with
  | tup ds =>
    have h : (kNsts ds && decide (deps ds ≤ 7)) = true := h
    rw [Bool.and_eq_true, decide_eq_true_eq] at h
    refine ⟨h.1, ?_, rfl⟩
    rw [nk_depth (.tup ds) h.1]
    show deps ds + 1 ≤ 8
    omega
  | _ => cases h

section
variable {X : Cx} {τ : List Addr} {pins : List (Addr × Obj)} {sh : Shared} {σ : L2.St} {H : Hp} {φ : Ph} {n : Nat}
mutual
theorem nk_is (I : Inv X pins σ H sh) : ∀ (d : D) {v : V} {u : Value}, kNst d = true → RV (qx X τ) φ n H v d → RelV v u → NestedIs sh.heap (nk d) u
  | .non, _, _, _, h, r => by cases h; cases r; exact .none
  | .int i, _, _, _, h, r => by cases h; obtain ⟨t, rfl⟩ := r; exact .int i t
  | .str x, _, _, _, h, r => by
    cases h with
    | str _ _ => obtain ⟨t, rfl⟩ := r; exact .text x t
  | .tup ds, _, _, hk, h, r => by
    cases h with
    | tup q rr =>
      cases r
      obtain ⟨its, rv, ⟨o, e, c, m, dd⟩, _⟩ := I.tuple q
      exact .tup e c dd (by simpa using nks_are I ds hk rr rv)
  | .bl _, _, _, hk, _, _ => by cases hk
  | .lst _, _, _, hk, _, _ => by cases hk
  | .ref _, _, _, hk, _, _ => by cases hk
  | .rol _, _, _, hk, _, _ => by cases hk
theorem nks_are (I : Inv X pins σ H sh) : ∀ (ds : List D) {vs : List V} {us : List Value}, kNsts ds = true → RVs (qx X τ) φ n H vs ds → Vals vs us → NestedAll sh.heap (nks ds) us
  | [], _, _, _, h, r => by cases h; cases r; exact .nil
  | d :: ds, _, _, hk, h, r => by
    have hk : (kNst d && kNsts ds) = true := hk
    rw [Bool.and_eq_true] at hk
    cases h with
    | cons h1 h2 => cases r with
      | cons r1 r2 => exact .cons (nk_is I d hk.1 h1 r1) (nks_are I ds hk.2 h2 r2)
end
theorem Paired.join {α β γ : Type} {F : α → β → Prop} {G : α → γ → Prop} : ∀ {as : List α} {bs : List β} {cs : List γ}, Paired F as bs → Paired G as cs → Paired (fun c b => ∃ a, F a b ∧ G a c) cs bs
  | _, _, _, .nil, .nil => .nil
  | _, _, _, .cons h t, .cons g u => .cons ⟨_, h, g⟩ (Paired.join t u)

/-- a written key and its value, as they stand -/
def NX (X : Cx) (τ : List Addr) (φ : Ph) (n : Nat) (H : Hp) (q : D × D) (x : NestedKey × Addr × Value) : Prop :=
  nk q.1 = x.1 ∧ kTp q.1 = true ∧ RV (qx X τ) φ n H (.ref x.2.1) q.1 ∧ ∃ v, RelV v x.2.2 ∧ RV (qx X τ) φ n H v q.2
theorem NX.is (I : Inv X pins σ H sh) {q : D × D} {x : NestedKey × Addr × Value} (h : NX X τ φ n H q x) : (nestedKind X.prog X.w).is sh.heap x.1 x.2.1 := by
  obtain ⟨h1, h2, h3, _⟩ := h
  obtain ⟨k1, k2, _⟩ := kTp_ok h2
  rw [← h1]
  exact ⟨nk_is I q.1 k1 h3 rfl, k2⟩
theorem nx_is (I : Inv X pins σ H sh) {kvs : Kvs} {xs : List (NestedKey × Addr × Value)} (h : Paired (NX X τ φ n H) kvs xs) : ∀ x ∈ xs, (nestedKind X.prog X.w).is sh.heap x.1 x.2.1 := fun x hx => by
  obtain ⟨q, hq⟩ := Paired.right h x hx
  exact hq.is I
/-- a dict with tuples as keys (or none) -/
theorem dn_raw {a : Addr} {kvs : Kvs} (I : Inv X pins σ H sh) (h : CellR (qx X τ) φ n H a (.dct kvs)) (hk : (kvs.all fun p => kTp p.1) = true) :
    kvs.length ≤ sizeLine ∧ (a == sysModules) = false ∧ ∃ xs, Paired (NX X τ φ n H) kvs xs ∧ sh.heap.DictOfH (nestedKind X.prog X.w) a xs := by
  rcases h with ⟨xs, h1, h2⟩ | ⟨es, h1, h2, _⟩
  · obtain ⟨z, y, vs, rel, o, es, ep, e, c, dd, _, pr, _⟩ := dk_of I.hok h1
    cases h2 with
    | nil =>
      cases rel
      cases e1 : es.toList with
      | nil => exact ⟨Nat.zero_le _, y, [], .nil, o, es, ep, e, c, dd, e1, (fun _ hx => nomatch hx), List.nodup_nil⟩
      | cons x xs => rw [e1] at pr; cases pr
    | @cons p q _ _ g _ =>
      exfalso
      rw [List.all_cons, Bool.and_eq_true] at hk
      have z := (kTp_ok hk.1).2.2
      obtain ⟨k, v⟩ := p
      obtain ⟨kd, vd⟩ := q
      have g : RV (qx X τ) φ n H (kV k) kd := g.1
      have z : kIn kd = false := z
      cases k with
      | inl i =>
        have g : RV (qx X τ) φ n H (.int i) kd := g
        cases g; cases z
      | inr i =>
        have g : RV (qx X τ) φ n H (.str i) kd := g
        cases g; cases z
  · obtain ⟨⟨z, y, xs, r, o, ents, ep, e, c, dd, he, hn⟩, _, _⟩ := I.hok a _ h1
    have hp : Paired (NX X τ φ n H) kvs xs := L2.Paired.mapP (Paired.join r h2) fun q x ⟨p, ⟨r1, r2, r3⟩, g1, g2, g3, g4⟩ => ⟨g1.trans r1, g2, by rw [← r2]; exact g3, p.2.2, r3, g4⟩
    exact ⟨by rw [← Paired.length h2]; exact z, y, xs, hp, o, ents, ep, e, c, dd, he, nx_is I hp, hn⟩
theorem dGet_pos {p : D × D} {r : Kvs} {k : D} (e : p.1 = k) : dGet (p :: r) k = some p.2 := by simp [dGet, List.find?_cons, e]
theorem dGet_neg {p : D × D} {r : Kvs} {k : D} (e : ¬ p.1 = k) : dGet (p :: r) k = dGet r k := by simp [dGet, List.find?_cons, e]
theorem dGet_any {kvs : Kvs} {k : D} : (kvs.any fun p => decide (p.1 = k)) = (dGet kvs k).isSome := by
  induction kvs with
  | nil => rfl
  | cons p r ih =>
    rw [List.any_cons]
    by_cases e : p.1 = k
    · rw [dGet_pos e, decide_eq_true e]; rfl
    · rw [dGet_neg e, decide_eq_false e, Bool.false_or]; exact ih
/-- what stands at a key -/
theorem nx_at {kvs : Kvs} {xs : List (NestedKey × Addr × Value)} {k : D} (h : Paired (NX X τ φ n H) kvs xs) (hk : kTp k = true) :
    (dGet kvs k = none → atKey xs (nk k) = none) ∧ ∀ f, dGet kvs k = some f → ∃ p, atKey xs (nk k) = some p ∧ ∃ v, RelV v p.2 ∧ RV (qx X τ) φ n H v f := by
  induction h with
  | nil => exact ⟨fun _ => rfl, fun f e => (nomatch e)⟩
  | @cons q x qs xs g t ih =>
    obtain ⟨g1, g2, g3, g4⟩ := g
    by_cases e : q.1 = k
    · have e2 : x.1 = nk k := by rw [← g1, e]
      have b : atKey (x :: xs) (nk k) = some x.2 := by simp [atKey, List.find?_cons, e2]
      rw [dGet_pos e, b]
      exact ⟨(fun z => nomatch z), fun f z => by cases z; exact ⟨_, rfl, g4⟩⟩
    · have e2 : ¬ x.1 = nk k := fun z => e (nk_inj _ _ (kTp_ok g2).1 (kTp_ok hk).1 (g1.trans z))
      have b : atKey (x :: xs) (nk k) = atKey xs (nk k) := by simp [atKey, List.find?_cons, e2]
      rw [dGet_neg e, b]
      exact ih
/-- a dict with numbers and texts as keys -/
theorem dk_raw {a : Addr} {kvs : Kvs} (h : CellR (qx X τ) φ n H a (.dct kvs)) (hk : (kvs.all fun p => kIn p.1) = true) : ∃ xs, H a = some (.dK xs) ∧ KPs (qx X τ) φ n H xs kvs := by
  rcases h with h | ⟨es, h1, h2, h3⟩
  · exact h
  · exfalso
    cases h2 with
    | nil => exact h3 rfl
    | @cons p q _ _ g _ =>
      rw [List.all_cons, Bool.and_eq_true] at hk
      have z := (kTp_ok g.2.1).2.2
      rw [hk.1] at z
      cases z
def keyD : D → Key
  | .int i => .inl i
  | .str x => .inr x
  | _ => .inl 0
theorem keyD_v {K : Kq} {k : D} {y : V} (hk : kIn k = true) (h : RV K φ n H y k) : y = kV (keyD k) := by
  cases h with
  | int i => rfl
  | str x _ => rfl
  | _ => cases hk
theorem keyD_of {K : Kq} {k : Key} {d : D} (h : RV K φ n H (kV k) d) : kIn d = true ∧ keyD d = k := by
  cases k with
  | inl i =>
    have h : RV K φ n H (.int i) d := h
    cases h
    exact ⟨rfl, rfl⟩
  | inr i =>
    have h : RV K φ n H (.str i) d := h
    cases h
    exact ⟨rfl, rfl⟩
theorem keyD_inj {a b : D} (ha : kIn a = true) (hb : kIn b = true) (h : keyD a = keyD b) : a = b := by
  cases a <;> first | (cases ha; done) | (cases b <;> first | (cases hb; done) | (cases h; done) | (cases h; rfl))
theorem kp_at {K : Kq} {kvs : Kvs} {xs : List (Key × V)} {k : D} (h : KPs K φ n H xs kvs) (hk : kIn k = true) :
    (dGet kvs k = none → valV xs (keyD k) = none) ∧ ∀ f, dGet kvs k = some f → ∃ v, valV xs (keyD k) = some v ∧ RV K φ n H v f := by
  induction h with
  | nil => exact ⟨fun _ => rfl, fun f e => (nomatch e)⟩
  | @cons p q ps qs g t ih =>
    obtain ⟨g1, g2⟩ := keyD_of g.1
    by_cases e : q.1 = k
    · rw [dGet_pos e, valV_pos (show p.1 = keyD k by rw [← g2, e])]
      exact ⟨(fun z => nomatch z), fun f z => by cases z; exact ⟨_, rfl, g.2⟩⟩
    · have e2 : ¬ p.1 = keyD k := fun z => e (keyD_inj g1 hk (g2.trans z))
      rw [dGet_neg e, valV_neg e2]
      exact ih
theorem kp_put {K : Kq} {kvs : Kvs} {xs : List (Key × V)} {k f : D} {v : V} (h : KPs K φ n H xs kvs) (hk : RV K φ n H (kV (keyD k)) k) (hv : RV K φ n H v f) :
    KPs K φ n H (putK xs (keyD k) v) (dPut kvs k f) := by
  have ki := (keyD_of hk).1
  have e : (xs.any fun p => decide (p.1 = keyD k)) = kvs.any fun p => decide (p.1 = k) := by
    rw [valV_any, dGet_any]
    obtain ⟨h1, h2⟩ := kp_at h ki
    cases c : dGet kvs k with
    | none => rw [h1 c]; rfl
    | some f => obtain ⟨v, h3, _⟩ := h2 f c; rw [h3]; rfl
  unfold putK dPut
  rw [e]
  split
  · induction h with
    | nil => exact .nil
    | @cons p q ps qs g t ih =>
      rw [List.map_cons, List.map_cons]
      refine .cons ?_ ?_
      · obtain ⟨g1, g2⟩ := keyD_of g.1
        by_cases e1 : q.1 = k
        · rw [if_pos e1, if_pos (show p.1 = keyD k by rw [← g2, e1])]; exact ⟨g.1, hv⟩
        · rw [if_neg e1, if_neg fun z => e1 (keyD_inj g1 ki (g2.trans z))]; exact g
      · have aux : ∀ {ps : List (Key × V)} {qs : Kvs}, KPs K φ n H ps qs → KPs K φ n H (ps.map fun kv => if kv.1 = keyD k then (kv.1, v) else kv) (qs.map fun p => if p.1 = k then (p.1, f) else p) := by
          intro ps qs t
          induction t with
          | nil => exact .nil
          | @cons p q ps qs g t ih =>
            rw [List.map_cons, List.map_cons]
            refine .cons ?_ ih
            obtain ⟨g1, g2⟩ := keyD_of g.1
            by_cases e1 : q.1 = k
            · rw [if_pos e1, if_pos (show p.1 = keyD k by rw [← g2, e1])]; exact ⟨g.1, hv⟩
            · rw [if_neg e1, if_neg fun z => e1 (keyD_inj g1 ki (g2.trans z))]; exact g
        exact aux t
  · exact Paired.snoc h ⟨hk, hv⟩
end
end Kp

/-! Kd, part B: operations on dicts by data. Own work. -/
namespace Kp
open PySem PySem.Spec PyProof.Rows L2

def putE (es : List (NestedKey × Addr × V)) (k : NestedKey) (b : Addr) (v : V) : List (NestedKey × Addr × V) :=
  if (es.any fun p => decide (p.1 = k)) = true then es.map (fun p => if p.1 = k then (p.1, p.2.1, v) else p) else es ++ [(k, b, v)]
abbrev EX : List (NestedKey × Addr × V) → List (NestedKey × Addr × Value) → Prop := Paired fun p q => p.1 = q.1 ∧ p.2.1 = q.2.1 ∧ RelV p.2.2 q.2.2
theorem ex_any {es : List (NestedKey × Addr × V)} {xs : List (NestedKey × Addr × Value)} (h : EX es xs) (k : NestedKey) : (es.any fun p => decide (p.1 = k)) = (atKey xs k).isSome := by
  induction h with
  | nil => rfl
  | @cons p x ps xs g t ih =>
    obtain ⟨g1, _⟩ := g
    rw [List.any_cons]
    by_cases e : p.1 = k
    · have b : atKey (x :: xs) k = some x.2 := by simp [atKey, List.find?_cons, ← g1, e]
      rw [b, decide_eq_true e]; rfl
    · have b : atKey (x :: xs) k = atKey xs k := by simp [atKey, List.find?_cons, ← g1, e]
      rw [b, decide_eq_false e, Bool.false_or]; exact ih
theorem ex_put {es : List (NestedKey × Addr × V)} {xs : List (NestedKey × Addr × Value)} {k : NestedKey} {b : Addr} {v : V} {u : Value} (h : EX es xs) (rv : RelV v u) : EX (putE es k b v) (storedH xs k b u) := by
  unfold putE storedH
  rw [ex_any h k]
  split
  · induction h with
    | nil => exact .nil
    | @cons p x ps xs g t ih =>
      have aux : ∀ {ps : List (NestedKey × Addr × V)} {xs : List (NestedKey × Addr × Value)}, EX ps xs → EX (ps.map fun p => if p.1 = k then (p.1, p.2.1, v) else p) (xs.map (putAt k u)) := by
        intro ps xs t
        induction t with
        | nil => exact .nil
        | @cons p x ps xs g t ih =>
          rw [List.map_cons, List.map_cons]
          refine .cons ?_ ih
          obtain ⟨g1, g2, g3⟩ := g
          unfold putAt
          by_cases e : p.1 = k
          · rw [if_pos e, if_pos (g1.symm.trans e)]; exact ⟨g1, g2, rv⟩
          · rw [if_neg e, if_neg fun z => e (g1.trans z)]; exact ⟨g1, g2, g3⟩
      exact aux (.cons g t)
  · exact Paired.snoc h ⟨rfl, rfl, rv⟩
theorem putE_ne {es : List (NestedKey × Addr × V)} {k : NestedKey} {b : Addr} {v : V} : putE es k b v ≠ [] := by
  unfold putE
  split
  · rename_i h
    intro e
    rw [List.map_eq_nil_iff] at e
    subst e
    cases h
  · simp
theorem putE_len (es : List (NestedKey × Addr × V)) (k : NestedKey) (b : Addr) (v : V) : (putE es k b v).length ≤ es.length + 1 := by
  unfold putE
  split
  · rw [List.length_map]; omega
  · rw [List.length_append]; exact Nat.le_refl _

section
variable {X : Cx} {τ : List Addr} {pins : List (Addr × Obj)} {sh : Shared} {σ : L2.St} {H : Hp} {φ : Ph} {n : Nat} {a : Addr} {kvs : Kvs} {k f : D} {y v : V} {u r : Value}
theorem np_put {K : Kq} {es : List (NestedKey × Addr × V)} {b : Addr} (h : NPs K φ n H es kvs) (hk : kTp k = true) (hb : RV K φ n H (.ref b) k) (hv : RV K φ n H v f) : NPs K φ n H (putE es (nk k) b v) (dPut kvs k f) := by
  have any : ∀ {es : List (NestedKey × Addr × V)} {kvs : Kvs}, NPs K φ n H es kvs → (es.any fun p => decide (p.1 = nk k)) = kvs.any fun p => decide (p.1 = k) := by
    intro es kvs t
    induction t with
    | nil => rfl
    | @cons p q ps qs g t ih =>
      rw [List.any_cons, List.any_cons, ih]
      by_cases e : q.1 = k
      · rw [decide_eq_true e, decide_eq_true (show p.1 = nk k by rw [← g.1, e])]
      · rw [decide_eq_false e, decide_eq_false fun z => e (nk_inj _ _ (kTp_ok g.2.1).1 (kTp_ok hk).1 (g.1.trans z))]
  unfold putE dPut
  rw [any h]
  split
  · have aux : ∀ {ps : List (NestedKey × Addr × V)} {qs : Kvs}, NPs K φ n H ps qs → NPs K φ n H (ps.map fun p => if p.1 = nk k then (p.1, p.2.1, v) else p) (qs.map fun p => if p.1 = k then (p.1, f) else p) := by
      intro ps qs t
      induction t with
      | nil => exact .nil
      | @cons p q ps qs g t ih =>
        rw [List.map_cons, List.map_cons]
        refine .cons ?_ ih
        by_cases e : q.1 = k
        · rw [if_pos e, if_pos (show p.1 = nk k by rw [← g.1, e])]; exact ⟨g.1, g.2.1, g.2.2.1, hv⟩
        · rw [if_neg e, if_neg fun z => e (nk_inj _ _ (kTp_ok g.2.1).1 (kTp_ok hk).1 (g.1.trans z))]; exact g
    exact aux h
  · exact Paired.snoc h ⟨rfl, hk, hb, hv⟩
theorem dn_raw2 (I : Inv X pins σ H sh) (h : CellR (qx X τ) φ n H a (.dct kvs)) (hk : (kvs.all fun p => kTp p.1) = true) :
    ∃ es xs, NPs (qx X τ) φ n H es kvs ∧ EX es xs ∧ sh.heap.DictOfH (nestedKind X.prog X.w) a xs := by
  rcases h with h | ⟨es, h1, h2, h3⟩
  · obtain ⟨z, y, xs, hp, dd⟩ := dn_raw I (.inl h) hk
    obtain ⟨xs', h1, h2⟩ := h
    cases hp with
    | nil => exact ⟨[], [], .nil, .nil, dd⟩
    | @cons p q ps qs g t =>
      cases h2 with
      | cons g2 _ =>
        have z := (kTp_ok g.2.1).2.2
        rw [(keyD_of g2.1).1] at z
        cases z
  · obtain ⟨⟨z, y, xs, r, o, ents, ep, e, c, dd, he, hn⟩, _, _⟩ := I.hok a _ h1
    have hp : Paired (NX X τ φ n H) kvs xs := L2.Paired.mapP (Paired.join r h2) fun q x ⟨p, ⟨r1, r2, r3⟩, g1, g2, g3, g4⟩ => ⟨g1.trans r1, g2, by rw [← r2]; exact g3, p.2.2, r3, g4⟩
    exact ⟨es, xs, h2, r, o, ents, ep, e, c, dd, he, nx_is I hp, hn⟩
theorem dOk_inv (h : dOk kvs k = true) : (kIn k = true ∧ (kvs.all fun p => kIn p.1) = true) ∨ (kTp k = true ∧ (kvs.all fun p => kTp p.1) = true) := by
  unfold dOk at h
  rw [Bool.or_eq_true, Bool.and_eq_true, Bool.and_eq_true] at h
  exact h
theorem kTp_ref {K : Kq} (hk : kTp k = true) (h : RV K φ n H y k) : ∃ b, y = .ref b := by
  cases h with
  | tup _ _ => exact ⟨_, rfl⟩
  | _ => cases hk
theorem cell_type (I : Inv X pins σ H sh) (h : CellR (qx X τ) φ n H a (.dct kvs)) : sh.TypeIs (.ref a) "dict" := by
  rcases h with ⟨xs, h1, _⟩ | ⟨es, h1, _⟩
  · obtain ⟨_, _, vs, _, dd⟩ := dk_of I.hok h1
    exact dd.typeIs
  · obtain ⟨⟨z, y, xs, r, o, ents, ep, e, c, dd, he, hn⟩, _, _⟩ := I.hok a _ h1
    exact ⟨o, e, c.1⟩
/-- d[k] -/
theorem c_getItem {A : Around} {E : Value → Shared → Prop} {Q : Value → Shared → Prop} (hu : A.units + 70 < cLine) (I : Inv X pins σ H sh) (hc : CellR (qx X τ) φ n H a (.dct kvs)) (ok : dOk kvs k = true) (hk : RV (qx X τ) φ n H y k) (ry : RelV y u) (g : dGet kvs k = some f)
    (h : ∀ z w' s', Inv X pins σ H s' → RelV z w' → RV (qx X τ) φ n H z f → Q w' s') : wpAny (model X.prog X.w) A (getItem (.ref a) u) Q E sh := by
  rcases dOk_inv ok with ⟨k1, k2⟩ | ⟨k1, k2⟩
  · obtain ⟨xs, h1, h2⟩ := dk_raw hc k2
    have ey := keyD_v k1 hk
    obtain ⟨v, h3, h4⟩ := (kp_at h2 k1).2 f g
    subst ey
    exact d_getItem (by omega) I (v := v) (.inl ⟨xs, _, .inl h1, rfl, h3.symm⟩) ry fun w' s' I' rw' => h v w' s' I' rw' h4
  · obtain ⟨z, hd, xs, hp, dd⟩ := dn_raw I hc k2
    obtain ⟨b, rfl⟩ := kTp_ref k1 hk
    cases ry
    obtain ⟨p, h3, v, h4, h5⟩ := (nx_at hp k1).2 f g
    exact wpAny_getItem_heap (knd := nestedKind X.prog X.w) (k := nk k) (show A.units + 1 + 8 < cLine by omega) ⟨nk_is I k (kTp_ok k1).1 hk rfl, (kTp_ok k1).2.1⟩ dd h3 (h v _ _ (I.tok _) h4 h5)
/-- k in d, k not in d -/
theorem c_in {neg : Bool} {A : Around} {E : Value → Shared → Prop} {Q : Value → Shared → Prop} (hu : A.units + 70 < cLine) (I : Inv X pins σ H sh) (hc : CellR (qx X τ) φ n H a (.dct kvs)) (ok : dOk kvs k = true) (hk : RV (qx X τ) φ n H y k) (ry : RelV y u)
    (h : ∀ s', Inv X pins σ H s' → Q (.bool (if neg then !(dGet kvs k).isSome else (dGet kvs k).isSome)) s') : wpAny (model X.prog X.w) A (compareOp (if neg then .NotIn else .In) u (.ref a)) Q E sh := by
  rcases dOk_inv ok with ⟨k1, k2⟩ | ⟨k1, k2⟩
  · obtain ⟨xs, h1, h2⟩ := dk_raw hc k2
    have ey := keyD_v k1 hk
    have e : (valV xs (keyD k)).isSome = (dGet kvs k).isSome := by
      obtain ⟨h3, h4⟩ := kp_at h2 k1
      cases c : dGet kvs k with
      | none => rw [h3 c]; rfl
      | some f => obtain ⟨v, h5, _⟩ := h4 f c; rw [h5]; rfl
    subst ey
    have g : DGet H a (kV (keyD k)) (valV xs (keyD k)) := .inl ⟨xs, _, .inl h1, rfl, rfl⟩
    rw [← e] at h
    cases neg with
    | true => exact d_notIn (by omega) I g ry h
    | false => exact d_in (by omega) I g ry h
  · obtain ⟨z, hd, xs, hp, dd⟩ := dn_raw I hc k2
    obtain ⟨b, rfl⟩ := kTp_ref k1 hk
    cases ry
    have e : (atKey xs (nk k)).isSome = (dGet kvs k).isSome := by
      obtain ⟨h3, h4⟩ := nx_at hp k1
      cases c : dGet kvs k with
      | none => rw [h3 c]; rfl
      | some f => obtain ⟨v, h5, _⟩ := h4 f c; rw [h5]; rfl
    have key : (nestedKind X.prog X.w).is sh.heap (nk k) b := ⟨nk_is I k (kTp_ok k1).1 hk rfl, (kTp_ok k1).2.1⟩
    rw [← e] at h
    cases neg with
    | true => exact wpAny_notIn_heap (knd := nestedKind X.prog X.w) (k := nk k) (show A.units + 1 + 8 < cLine by omega) key hd dd (h _ (I.tok _))
    | false => exact wpAny_in_heap (knd := nestedKind X.prog X.w) (k := nk k) (show A.units + 1 + 8 < cLine by omega) key hd dd (h _ (I.tok _))
/-- d.get(k), d.get(k, x) -/
theorem c_get {more : List Value} {dv : V} {du : Value} {dd0 : D} {A : Around} {E : Value → Shared → Prop} {Q : Value → Shared → Prop} (hm : (more = [] ∧ dd0 = .non) ∨ (more = [du] ∧ RelV dv du ∧ RV (qx X τ) φ n H dv dd0)) (hu : A.units + 70 < cLine) (I : Inv X pins σ H sh) (hc : CellR (qx X τ) φ n H a (.dct kvs)) (ok : dOk kvs k = true) (hk : RV (qx X τ) φ n H y k) (ry : RelV y u)
    (h : ∀ z w' s', Inv X pins σ H s' → RelV z w' → RV (qx X τ) φ n H z ((dGet kvs k).getD dd0) → Q w' s') : wpAny (model X.prog X.w) A (call (.builtin "dict.get") (.ref a :: u :: more)) Q E sh := by
  rcases dOk_inv ok with ⟨k1, k2⟩ | ⟨k1, k2⟩
  · obtain ⟨xs, h1, h2⟩ := dk_raw hc k2
    have ey := keyD_v k1 hk
    obtain ⟨h3, h4⟩ := kp_at h2 k1
    subst ey
    have g : DGet H a (kV (keyD k)) (valV xs (keyD k)) := .inl ⟨xs, _, .inl h1, rfl, rfl⟩
    rcases hm with ⟨rfl, rfl⟩ | ⟨rfl, m1, m2⟩
    · refine d_get1 (by omega) I g ry fun w' s' I' rw' => h _ w' s' I' rw' ?_
      cases c : dGet kvs k with
      | none => rw [h3 c]; exact .non
      | some f => obtain ⟨v, h5, h6⟩ := h4 f c; rw [h5]; exact h6
    · refine d_get2 (by omega) I g ry m1 fun w' s' I' rw' => h _ w' s' I' rw' ?_
      cases c : dGet kvs k with
      | none => rw [h3 c]; exact m2
      | some f => obtain ⟨v, h5, h6⟩ := h4 f c; rw [h5]; exact h6
  · obtain ⟨z, hd, xs, hp, dd⟩ := dn_raw I hc k2
    obtain ⟨b, rfl⟩ := kTp_ref k1 hk
    cases ry
    obtain ⟨h3, h4⟩ := nx_at hp k1
    have key : (nestedKind X.prog X.w).is sh.heap (nk k) b := ⟨nk_is I k (kTp_ok k1).1 hk rfl, (kTp_ok k1).2.1⟩
    have room : (nestedKind X.prog X.w).room A.in1 := show A.units + 1 + 8 < cLine by omega
    have fin : ∀ (d0 : Value) (v0 : V), RelV v0 d0 → RV (qx X τ) φ n H v0 dd0 → Q (((atKey xs (nk k)).map (·.2)).getD d0) { sh with toks := sh.toks + (nestedKind X.prog X.w).draws (nk k) } := fun d0 v0 r0 rv0 => by
      cases c : dGet kvs k with
      | none => rw [c] at h; rw [h3 c]; exact h v0 d0 _ (I.tok _) r0 rv0
      | some f =>
        rw [c] at h
        obtain ⟨p, h5, v, h6, h7⟩ := h4 f c
        rw [h5]
        exact h v _ _ (I.tok _) h6 h7
    rcases hm with ⟨rfl, rfl⟩ | ⟨rfl, m1, m2⟩
    · exact call_meetsIn PySem.F.slot_dict_get dd.typeIs PySem.F.entry_dict_get (PySem.F.args_dict_get_2 _ _) (meetsH_dict_get (nestedKind X.prog X.w) a b hd) ⟨room, nk k, xs, key, dd, fin .none .non rfl .non⟩
    · exact call_meetsIn PySem.F.slot_dict_get dd.typeIs PySem.F.entry_dict_get (PySem.F.args_dict_get_3 _ _ _) (meetsH_dict_get_default (nestedKind X.prog X.w) a b hd du) ⟨room, nk k, xs, key, dd, fin du dv m1 m2⟩
theorem lim_size : lim < sizeLine := by rw [sizeLine_eq]; decide
/-- d[k] = v -/
theorem c_setItem {A : Around} {E : Value → Shared → Prop} {Q : Unit → Shared → Prop} (hu : A.units + 70 < cLine) (I : Inv X pins σ H sh) (hc : CellR (qx X τ) φ n H a (.dct kvs)) (ok : dOk kvs k = true) (hl : kvs.length < lim) (hk : RV (qx X τ) φ n H y k) (ry : RelV y u) (hv : RV (qx X τ) φ n H v f) (rv : RelV v r)
    (hm : ∀ o d v, RV (qx X τ) φ n H v d → RV (qx X τ) φ n (upd H a o) v d)
    (h : ∀ o s', Inv X pins σ (upd H a o) s' → CellR (qx X τ) φ n (upd H a o) a (.dct (dPut kvs k f)) → Q () s') : wpAny (model X.prog X.w) A (setItem (.ref a) u r) Q E sh := by
  have hls := lim_size
  rcases dOk_inv ok with ⟨k1, k2⟩ | ⟨k1, k2⟩
  · obtain ⟨xs, h1, h2⟩ := dk_raw hc k2
    have ey := keyD_v k1 hk
    subst ey
    have hlen : xs.length = kvs.length := Paired.length h2
    refine d_setItem (by omega) I (.inl ⟨xs, keyD k, h1, rfl, by omega, rfl⟩) ry rv fun s' I' => h _ s' I' (.inl ⟨_, upd_same, ?_⟩)
    exact L2.Paired.mapP (kp_put h2 hk hv) fun p q z => ⟨hm _ _ _ z.1, hm _ _ _ z.2⟩
  · obtain ⟨z, hd, _⟩ := dn_raw I hc k2
    obtain ⟨es, xs, hp, hx, dd⟩ := dn_raw2 I hc k2
    obtain ⟨b, rfl⟩ := kTp_ref k1 hk
    cases ry
    have hlen : es.length = kvs.length := Paired.length hp
    have hlen2 : es.length = xs.length := Paired.length hx
    have mu : Mut (H a) := by
      rcases hc with ⟨_, e, _⟩ | ⟨_, e, _⟩ <;> (rw [e]; trivial)
    refine wpAny_setItem_heap (knd := nestedKind X.prog X.w) (k := nk k) (hsz := by omega) (show A.units + 1 + 8 < cLine by omega) ⟨nk_is I k (kTp_ok k1).1 hk rfl, (kTp_ok k1).2.1⟩ dd fun h' dd' hs => ?_
    obtain ⟨q, ents, ep, hq, h2, h3, h4, _, h5⟩ := dd'
    have st : ∀ h1 h2 : Heap, (putE es (nk k) b v).length ≤ sizeLine ∧ (a == sysModules) = false ∧ (∃ xs, EX (putE es (nk k) b v) xs ∧ ∃ o ents ep, h1.get? a = some o ∧ o.ExactDict ∧ o.data = .dict ents ep ∧ ents.toList = xs.map (ndEnt X.w) ∧ (xs.map (·.1)).Nodup) →
        (∀ o, h1.get? a = some o → h2.get? a = some o) → (putE es (nk k) b v).length ≤ sizeLine ∧ (a == sysModules) = false ∧ (∃ xs, EX (putE es (nk k) b v) xs ∧ ∃ o ents ep, h2.get? a = some o ∧ o.ExactDict ∧ o.data = .dict ents ep ∧ ents.toList = xs.map (ndEnt X.w) ∧ (xs.map (·.1)).Nodup) :=
      fun h1 h2 ⟨p1, p2, xs, p3, o, ents, ep, p4, p5⟩ k => ⟨p1, p2, xs, p3, o, ents, ep, k o p4, p5⟩
    have hl2 := putE_len es (nk k) b v
    refine h (dN X.w a (putE es (nk k) b v)) _ (d_write I mu hs ⟨q, hq⟩ ⟨⟨by omega, hd, _, ex_put hx rv, q, ents, ep, hq, h2, h3, h4, h5⟩, ⟨q, hq⟩, st⟩) (.inr ⟨_, upd_same, ?_, putE_ne⟩)
    exact L2.Paired.mapP (np_put hp k1 hk hv) fun p q z => ⟨z.1, z.2.1, hm _ _ _ z.2.2.1, hm _ _ _ z.2.2.2⟩
end
end Kp

/-! Kd, part C: len, list, new dicts by data. Own work. -/
namespace Kp
open PySem PySem.Spec PyProof.Rows L2
section
variable {X : Cx} {τ : List Addr} {pins : List (Addr × Obj)} {sh : Shared} {σ : L2.St} {H : Hp} {φ : Ph} {n : Nat} {a : Addr} {kvs : Kvs} {k f : D} {y v : V} {u r : Value}
/-- the entries as they stand -/
theorem c_raw (I : Inv X pins σ H sh) (hc : CellR (qx X τ) φ n H a (.dct kvs)) : kvs.length ≤ sizeLine ∧ (a == sysModules) = false ∧ ∃ es ep, sh.heap.DictRaw a es ep ∧ es.size = kvs.length ∧
    ∀ i (hi : i < es.size), ∃ q z v, kvs[i]? = some q ∧ RelV z es[i].key ∧ RV (qx X τ) φ n H z q.1 ∧ RelV v es[i].val ∧ RV (qx X τ) φ n H v q.2 := by
  rcases hc with ⟨xs, h1, h2⟩ | ⟨es, h1, h2, _⟩
  · obtain ⟨z, y, vs, rel, o, es, ep, e, c, dd, _, pr, _⟩ := dk_of I.hok h1
    have hl : es.size = kvs.length := by
      have q1 := pr.length
      have q2 : xs.length = vs.length := Paired.length rel
      have q3 : xs.length = kvs.length := Paired.length h2
      rw [← Array.length_toList]
      omega
    refine ⟨by rw [← Paired.length h2]; exact z, y, es, ep, ⟨o, e, c, dd⟩, hl, fun i hi => ?_⟩
    have aux : ∀ {xs : List (Key × V)} {vs : List (Key × Value)} {kvs : Kvs} {l : List DictEntry}, KV xs vs → KPs (qx X τ) φ n H xs kvs → Pairs (mixKind X.prog X.w) l vs → ∀ i (hi : i < l.length), ∃ q z v, kvs[i]? = some q ∧ RelV z l[i].key ∧ RV (qx X τ) φ n H z q.1 ∧ RelV v l[i].val ∧ RV (qx X τ) φ n H v q.2 := by
      intro xs vs kvs l rel
      induction rel generalizing kvs l with
      | nil => intro hp pr i hi; cases pr; exact absurd hi (Nat.not_lt_zero _)
      | @cons p q ps qs g t ih =>
        intro hp pr i hi
        cases hp with
        | cons g1 g2 => cases pr with
          | cons r1 r2 r3 =>
            cases i with
            | zero =>
              refine ⟨_, kV p.1, p.2, rfl, ?_, g1.1, ?_, g1.2⟩
              · have r1 : keyIs q.1 _ = true := r1
                rw [← g.1] at r1
                rcases keyIs_shape r1 with ⟨i, t, e1, e2⟩ | ⟨x, t, e1, e2⟩
                · rw [e1]; exact ⟨t, e2⟩
                · rw [e1]; exact ⟨t, e2⟩
              · show RelV p.2 _
                rw [show ((_ : DictEntry) :: _)[0].val = q.2 from r2]
                exact g.2
            | succ i => exact ih g2 r3 i (by simpa using hi)
    obtain ⟨q, z, v, q1, q2, q3, q4, q5⟩ := aux rel h2 pr i (by rw [Array.length_toList]; exact hi)
    exact ⟨q, z, v, q1, by simpa using q2, q3, by simpa using q4, q5⟩
  · obtain ⟨⟨z, y, xs, r, o, ents, ep, e, c, dd, he, hn⟩, _, _⟩ := I.hok a _ h1
    have hp : Paired (NX X τ φ n H) kvs xs := L2.Paired.mapP (Paired.join r h2) fun q x ⟨p, ⟨r1, r2, r3⟩, g1, g2, g3, g4⟩ => ⟨g1.trans r1, g2, by rw [← r2]; exact g3, p.2.2, r3, g4⟩
    have hl : ents.size = kvs.length := by rw [← Array.length_toList, he, List.length_map, Paired.length hp]
    refine ⟨by rw [← Paired.length h2]; exact z, y, ents, ep, ⟨o, e, c, dd⟩, hl, fun i hi => ?_⟩
    have aux : ∀ {kvs : Kvs} {xs : List (NestedKey × Addr × Value)}, Paired (NX X τ φ n H) kvs xs → ∀ (i : Nat) (x : NestedKey × Addr × Value), xs[i]? = some x → ∃ q, kvs[i]? = some q ∧ NX X τ φ n H q x := by
      intro kvs xs t
      induction t with
      | nil => intro i x e; simp at e
      | cons g t ih =>
        intro i x e
        cases i with
        | zero => simp at e; subst e; exact ⟨_, rfl, g⟩
        | succ i => simp at e; obtain ⟨q, h1, h2⟩ := ih i x e; exact ⟨q, by simpa using h1, h2⟩
    have hi2 : i < xs.length := by rw [hl, Paired.length hp] at hi; exact hi
    have ee : ents[i] = ndEnt X.w xs[i] := by
      have z : ents.toList[i]? = (xs.map (ndEnt X.w))[i]? := by rw [he]
      rw [List.getElem?_map, List.getElem?_eq_getElem hi2, Array.getElem?_toList, Array.getElem?_eq_getElem hi] at z
      exact Option.some.inj z
    obtain ⟨q, q1, q2, q3, q4, v, q5, q6⟩ := aux hp i xs[i] (List.getElem?_eq_getElem hi2)
    rw [ee]
    exact ⟨q, .ref xs[i].2.1, v, q1, rfl, q4, q5, q6⟩
/-- len(d) -/
theorem c_len {A : Around} {E : Value → Shared → Prop} {Q : Value → Shared → Prop} (I : Inv X pins σ H sh) (hc : CellR (qx X τ) φ n H a (.dct kvs)) (h : ∀ t s', Inv X pins σ H s' → Q (.int kvs.length t) s') : wpAny (model X.prog X.w) A (call (.builtin "len") [.ref a]) Q E sh := by
  obtain ⟨z, hd, es, ep, hr, hs, _⟩ := c_raw I hc
  have hs2 := sizeLine_eq
  refine PyProof.Rows.call_len_slot (n := kvs.length) hr.typeIs PySem.F.slot_dict_len (fun Q' hq => call_len_raw hd hr (by rw [hs]; exact hq)) (by omega) (by omega) (h _ _ ?_)
  exact (I.tok _).tok _
/-- pointwise -/
theorem keys_rv : ∀ (kvs : Kvs) (us : List Value), us.length = kvs.length → (∀ (i : Nat) (u : Value), us[i]? = some u → ∃ q z, kvs[i]? = some q ∧ RelV z u ∧ RV (qx X τ) φ n H z q.1) → ∃ zs, Vals zs us ∧ RVs (qx X τ) φ n H zs (kvs.map (·.1))
  | [], [], _, _ => ⟨[], .nil, .nil⟩
  | q :: kvs, u :: us, hl, h => by
    obtain ⟨q', z, h1, h2, h3⟩ := h 0 u rfl
    cases h1
    obtain ⟨zs, h4, h5⟩ := keys_rv kvs us (by simpa using hl) fun i u' e => by
      obtain ⟨q', z, h1, h2⟩ := h (i + 1) u' (by simpa using e)
      exact ⟨q', z, by simpa using h1, h2⟩
    exact ⟨z :: zs, .cons h2 h4, .cons h3 h5⟩
  | [], u :: us, hl, _ => by cases hl
  | q :: kvs, [], hl, _ => by cases hl
/-- list(d) -/
theorem c_list {Q : VK} (hh : X.calm = true) (I : Inv X pins σ H sh) (hc : CellR (qx X τ) φ n H a (.dct kvs)) (h : ∀ zs p, RVs (qx X τ) φ n H zs (kvs.map (·.1)) → H p = none → Q (.ref p) (upd H p (.lst zs))) :
    wpAny (model X.prog X.w) X.A (call (.type "list") [.ref a]) (EP X pins σ Q) X.xe sh := by
  obtain ⟨z, hd, es, ep, hr, hs, he⟩ := c_raw I hc
  refine PySem.W.kdl_call (PySem.KdlSrc.rawDict (es := es) (ep := ep) hd) (I.ok.hd hh) hr (by omega) fun h' tk acc c' hk hD hacc => ?_
  obtain ⟨zs, h1, h2⟩ := keys_rv (X := X) (τ := τ) (φ := φ) (n := n) (H := H) kvs acc.toList (by rw [Array.length_toList, hacc.1, hs]) fun i u e => by
    rw [Array.getElem?_toList] at e
    obtain ⟨hi, rfl⟩ := hacc.2 i u e
    obtain ⟨q, z, v, q1, q2, q3, _⟩ := he i hi
    exact ⟨q, z, q1, q2, q3⟩
  have hz : zs.length ≤ sizeLine := by rw [h2.length, List.length_map]; exact z
  exact ⟨.ref sh.heap.objs.size, upd H sh.heap.objs.size (.lst zs), I.laid (t' := tk) hk (Nat.le_refl _) (show ObjOk X.prog X.w _ _ _ (.lst zs) from ⟨hz, acc.toList, c', h1, by rw [Array.toArray_toList]; exact hD⟩), rfl, h zs _ h2 (I.hok.fresh (Nat.le_refl _))⟩
end
section
variable {K : Kq} {φ : Ph} {s : S} {H : Hp} {v : V} {d : D} {kvs : Kvs}
theorem dctOf_rel (r : Rel K φ s H) (h : RV K φ s.length H v d) (e : dctOf s d = some kvs) : ∃ i, d = .ref i ∧ v = .ref (φ i) ∧ i < s.length ∧ s[i]? = some (.dct kvs) ∧ CellR K φ s.length H (φ i) (.dct kvs) := by
  cases h with
  | ref i hi =>
    unfold dctOf at e
    cases hc : s[i]? with
    | none => simp [hc] at e
    | some c => cases c with
      | dct kvs' =>
        simp only [hc, Option.some.injEq] at e
        subst e
        exact ⟨i, rfl, rfl, hi, hc, r.cell i _ hc⟩
      | lst _ => simp [hc] at e
      | ins _ _ => simp [hc] at e
  | _ => cases e
/-- a new dict -/
theorem newD_post {xs : List (Key × V)} {p : Addr} {Q : VK} (r : Rel K φ s H) (hp : H p = none) (hx : KPs K φ s.length H xs kvs) (h : PostE K φ s.length H (.ref s.length) (s ++ [.dct kvs]) Q) : Q (.ref p) (upd H p (.dK xs)) := by
  have x : Ext φ s.length H (addC φ s.length p) (s.length + 1) (upd H p (.dK xs)) := Ext.cell hp
  have e1 : (addC φ s.length p) s.length = p := addC_eq
  have q : RV K (addC φ s.length p) (s ++ [C.dct kvs]).length (upd H p (.dK xs)) (.ref (addC φ s.length p s.length)) (.ref s.length) := .ref s.length (by simp)
  rw [e1] at q
  refine h _ _ _ (by rw [List.length_append]; exact x) (r.newC' hp (.inl ⟨xs, upd_same, ?_⟩)) q
  exact L2.Paired.mapP hx fun p q z => ⟨z.1.mono r.cm x, z.2.mono r.cm x⟩
end
end Kp

/-! Kp, part D: comparisons, items, slices, built-ins by values. Own work. -/
namespace Kp
open PySem PySem.Spec PyProof.Rows L2

mutual
def toPy : D → PyData
  | .non => .none
  | .bl b => .bool b
  | .int i => .int i
  | .str x => .str x
  | .tup ds => .tuple (toPys ds)
  | .lst ds => .list (toPys ds)
  | .ref _ => .none
  | .rol _ => .none
def toPys : List D → List PyData
  | [] => []
  | d :: ds => toPy d :: toPys ds
end
mutual
theorem eqv_deq : ∀ a b : D, pur a = true → pur b = true → PyData.eqv (toPy a) (toPy b) = deq a b
  | .non, b, _, hb => by cases b <;> first | rfl | (cases hb)
  | .bl x, b, _, hb => by cases b <;> first | rfl | (cases hb)
  | .int x, b, _, hb => by cases b <;> first | rfl | (cases hb)
  | .str x, b, _, hb => by cases b <;> first | rfl | (cases hb)
  | .tup x, b, ha, hb => by
    cases b <;> first
      | (simp only [toPy, PyData.eqv, deq]; exact eqvs_deqs x _ (by simpa [pur] using ha) (by simpa [pur] using hb))
      | rfl
      | (cases hb)
  | .lst x, b, ha, hb => by
    cases b <;> first
      | (simp only [toPy, PyData.eqv, deq]; exact eqvs_deqs x _ (by simpa [pur] using ha) (by simpa [pur] using hb))
      | rfl
      | (cases hb)
  | .ref _, _, ha, _ => by cases ha
  | .rol _, _, ha, _ => by cases ha
theorem eqvs_deqs : ∀ a b : List D, purs a = true → purs b = true → PyData.eqvAll (toPys a) (toPys b) = deqs a b
  | [], b, _, _ => by cases b <;> rfl
  | x :: xs, b, ha, hb => by
    cases b with
    | nil => rfl
    | cons y ys =>
      simp only [purs, Bool.and_eq_true] at ha hb
      simp only [toPys, PyData.eqvAll, deqs, eqv_deq x y ha.1 hb.1, eqvs_deqs xs ys ha.2 hb.2]
end
mutual
theorem depth_dep : ∀ a : D, pur a = true → (toPy a).depth = dep a
  | .non, _ => rfl
  | .bl x, _ => rfl
  | .int x, _ => rfl
  | .str x, _ => rfl
  | .tup x, h => by simp only [toPy, PyData.depth, dep, depths_deps x (by simpa [pur] using h)]
  | .lst x, h => by simp only [toPy, PyData.depth, dep, depths_deps x (by simpa [pur] using h)]
  | .ref _, h => by cases h
  | .rol _, h => by cases h
theorem depths_deps : ∀ a : List D, purs a = true → PyData.depthAll (toPys a) = deps a
  | [], _ => rfl
  | x :: xs, h => by
    simp only [purs, Bool.and_eq_true] at h
    simp only [toPys, PyData.depthAll, deps, depth_dep x h.1, depths_deps xs h.2]
end
theorem toPys_any (ds : List D) (p : PyData → Bool) (q : D → Bool) (h : ∀ d ∈ ds, p (toPy d) = q d) : (toPys ds).any p = ds.any q := by
  induction ds with
  | nil => rfl
  | cons d ds ih =>
    rw [toPys, List.any_cons, List.any_cons, h d List.mem_cons_self, ih fun d hd => h d (List.mem_cons_of_mem _ hd)]
theorem purs_mem {ds : List D} (h : purs ds = true) : ∀ d ∈ ds, pur d = true := by
  induction ds with
  | nil => intro d hd; cases hd
  | cons e es ih =>
    simp only [purs, Bool.and_eq_true] at h
    intro d hd
    rcases List.mem_cons.mp hd with rfl | hd
    · exact h.1
    · exact ih h.2 d hd

mutual
theorem alk_alike : ∀ a b : D, alk a b = true → PySem.W.alike (toPy a) (toPy b) = true
  | .non, b, h => by cases b <;> first | rfl | (cases h)
  | .bl x, b, h => by cases b <;> first | rfl | (cases h)
  | .int x, b, h => by cases b <;> first | rfl | (cases h)
  | .str x, b, h => by cases b <;> first | rfl | (cases h)
  | .tup x, b, h => by
    cases b <;> first
      | (simp only [toPy, PySem.W.alike]; exact alks_alike x _ (by simpa [alk] using h))
      | (cases h)
  | .lst x, b, h => by
    cases b <;> first
      | (simp only [toPy, PySem.W.alike]; exact alks_alike x _ (by simpa [alk] using h))
      | (cases h)
  | .ref _, b, h => by cases b <;> cases h
  | .rol _, b, h => by cases b <;> cases h
theorem alks_alike : ∀ a b : List D, alks a b = true → PySem.W.alikeAll (toPys a) (toPys b) = true
  | [], b, _ => by cases b <;> rfl
  | x :: xs, b, h => by
    cases b with
    | nil => rfl
    | cons y ys =>
      simp only [alks, Bool.and_eq_true] at h
      simp only [toPys, PySem.W.alikeAll, alk_alike x y h.1, alks_alike xs ys h.2, Bool.and_self]
end
mutual
theorem dlt_data : ∀ a b : D, pur a = true → pur b = true → alk a b = true → ∀ {r : Bool}, dlt a b = some r → PySem.W.dataLt (toPy a) (toPy b) = r
  | .non, b, _, _, _, r, h => by cases b <;> cases h
  | .bl x, b, _, _, _, r, h => by
    cases b <;> first
      | (cases h; done)
      | (simp only [dlt, Option.some.injEq] at h; subst h; refine (PySem.W.dataLt_bool x _).trans ?_; cases x <;> (rename Bool => y; cases y <;> rfl))
  | .int x, b, _, _, _, r, h => by
    cases b <;> first | (cases h; done) | (simp only [dlt, Option.some.injEq] at h; subst h; exact PySem.W.dataLt_int x _)
  | .str x, b, _, _, _, r, h => by
    cases b <;> first | (cases h; done) | (simp only [dlt, Option.some.injEq] at h; subst h; exact PySem.W.dataLt_str x _)
  | .tup x, b, ha, hb, hk, r, h => by
    cases b <;> first
      | (cases h; done)
      | (simp only [toPy]; rw [PySem.W.dataLt_tuple]; exact dlts_data x _ (by simpa [pur] using ha) (by simpa [pur] using hb) (by simpa [alk] using hk) (by simpa [dlt] using h))
  | .lst x, b, ha, hb, hk, r, h => by
    cases b <;> first
      | (cases h; done)
      | (simp only [toPy]; rw [PySem.W.dataLt_list]; exact dlts_data x _ (by simpa [pur] using ha) (by simpa [pur] using hb) (by simpa [alk] using hk) (by simpa [dlt] using h))
  | .ref _, b, _, _, _, r, h => by cases b <;> cases h
  | .rol _, b, _, _, _, r, h => by cases b <;> cases h
theorem dlts_data : ∀ a b : List D, purs a = true → purs b = true → alks a b = true → ∀ {r : Bool}, dlts a b = some r → PyProof.Rows.lexLt PyProof.Rows.itemOrd (PySem.W.keyToksAll (toPys a)) (PySem.W.keyToksAll (toPys b)) = r
  | [], [], _, _, _, r, h => by cases h; decide
  | [], y :: ys, _, _, _, r, h => by
    simp only [dlts, Option.some.injEq] at h
    subst h
    simp only [toPys, PySem.W.keyToksAll]
    exact (PySem.W.lex_atom (by simp) _ _).trans (by decide)
  | x :: xs, [], _, _, _, r, h => by
    simp only [dlts, Option.some.injEq] at h
    subst h
    simp only [toPys, PySem.W.keyToksAll]
    exact (PySem.W.lex_atom (by simp) _ _).trans (by decide)
  | x :: xs, y :: ys, ha, hb, hk, r, h => by
    simp only [purs, Bool.and_eq_true] at ha hb
    simp only [alks, Bool.and_eq_true] at hk
    simp only [toPys]
    rw [PySem.W.dataLt_cons (alk_alike x y hk.1), eqv_deq x y ha.1 hb.1]
    simp only [dlts] at h
    by_cases e : deq x y = true
    · rw [if_pos e] at h ⊢
      exact dlts_data xs ys ha.2 hb.2 hk.2 h
    · rw [if_neg e] at h ⊢
      exact dlt_data x y ha.1 hb.1 hk.1 h
end

mutual
/-- alike data can be compared, None alone apart -/
theorem dlt_some : ∀ a b : D, alk a b = true → a ≠ .non → ∃ r, dlt a b = some r
  | .non, b, _, h => absurd rfl h
  | .bl x, b, h, _ => by cases b <;> first | exact ⟨_, rfl⟩ | (cases h)
  | .int x, b, h, _ => by cases b <;> first | exact ⟨_, rfl⟩ | (cases h)
  | .str x, b, h, _ => by cases b <;> first | exact ⟨_, rfl⟩ | (cases h)
  | .tup x, b, h, _ => by
    cases b <;> first
      | (simp only [dlt]; exact dlts_some x _ (by simpa [alk] using h))
      | (cases h)
  | .lst x, b, h, _ => by
    cases b <;> first
      | (simp only [dlt]; exact dlts_some x _ (by simpa [alk] using h))
      | (cases h)
  | .ref _, b, h, _ => by cases b <;> cases h
  | .rol _, b, h, _ => by cases b <;> cases h
theorem dlts_some : ∀ a b : List D, alks a b = true → ∃ r, dlts a b = some r
  | [], [], _ => ⟨_, rfl⟩
  | [], y :: ys, _ => ⟨_, rfl⟩
  | x :: xs, [], _ => ⟨_, rfl⟩
  | x :: xs, y :: ys, h => by
    simp only [alks, Bool.and_eq_true] at h
    simp only [dlts]
    by_cases e : deq x y = true
    · rw [if_pos e]
      exact dlts_some xs ys h.2
    · rw [if_neg e]
      refine dlt_some x y h.1 fun z => ?_
      subst z
      have h1 := h.1
      cases y <;> first | exact e rfl | (cases h1)
end
theorem ltb_data {a b : D} (ha : pur a = true) (hb : pur b = true) (hk : alk a b = true) : PySem.W.dataLt (toPy a) (toPy b) = ltb a b := by
  by_cases hn : a = .non
  · subst hn
    cases b <;> first | (cases hk; done) | decide
  · obtain ⟨r, e⟩ := dlt_some a b hk hn
    rw [dlt_data a b ha hb hk e]
    unfold ltb
    rw [e] <;> rfl

section
variable {K : Kq} {φ : Ph} {s : S} {H : Hp} {n : Nat}
mutual
theorem RV.dp : ∀ (d : D) {v : V}, RV K φ n H v d → pur d = true → Dp K H v (toPy d) ∧ (toPy d).canLay0 = true
  | .non, _, h, _ => by cases h; exact ⟨.non, rfl⟩
  | .bl b, _, h, _ => by cases h; exact ⟨.bl b, rfl⟩
  | .int i, _, h, _ => by cases h; exact ⟨.int i, rfl⟩
  | .str x, _, h, _ => by cases h with
    | str _ q => exact ⟨.str x, by simp only [toPy, PyData.canLay0]; exact q⟩
  | .tup ds, _, h, hp => by cases h with
    | tup q r =>
      obtain ⟨h1, h2⟩ := RVs.dp ds r (by simpa [pur] using hp)
      exact ⟨by simp only [toPy]; exact .tup q h1, by simp only [toPy, PyData.canLay0]; exact h2⟩
  | .lst ds, _, h, hp => by cases h with
    | lst q _ _ r =>
      obtain ⟨h1, h2⟩ := RVs.dp ds r (by simpa [pur] using hp)
      exact ⟨by simp only [toPy]; exact .lst (SqL.of q) h1, by simp only [toPy, PyData.canLay0]; exact h2⟩
  | .ref _, _, _, hp => by cases hp
  | .rol _, _, _, hp => by cases hp
theorem RVs.dp : ∀ (ds : List D) {vs : List V}, RVs K φ n H vs ds → purs ds = true → DpAll K H vs (toPys ds) ∧ PyData.canLayAll0 (toPys ds) = true
  | [], _, h, _ => by cases h; exact ⟨.nil, rfl⟩
  | d :: ds, _, h, hp => by cases h with
    | cons h r =>
      simp only [purs, Bool.and_eq_true] at hp
      obtain ⟨h1, h2⟩ := RV.dp d h hp.1
      obtain ⟨h3, h4⟩ := RVs.dp ds r hp.2
      exact ⟨by simp only [toPys]; exact .cons h1 h3, by simp only [toPys, PyData.canLayAll0, h2, h4]; rfl⟩
end
theorem view_dp {d : D} {v : V} (r : Rel K φ s H) (h : RV K φ s.length H v d) (hp : pur (view s d) = true) : Dp K H v (toPy (view s d)) ∧ (toPy (view s d)).canLay0 = true := by
  cases d with
  | ref i =>
    cases h with
    | ref _ hi =>
      cases hc : s[i]? with
      | none => simp [view, hc, pur] at hp
      | some c =>
        have q := r.cell i c hc
        cases c with
        | lst es =>
          simp only [view, hc] at hp ⊢
          obtain ⟨vs, q1, q2⟩ := q
          obtain ⟨h1, h2⟩ := RVs.dp es q2 (by simpa [pur] using hp)
          exact ⟨by simp only [toPy]; exact .lst (SqL.of q1) h1, by simp only [toPy, PyData.canLay0]; exact h2⟩
        | dct _ => simp [view, hc, pur] at hp
        | ins _ _ => exact q.elim
  | _ => exact RV.dp _ h hp
end

/-- a comparison of two data -/
def OpB (X : Cx) (f : Value → Value → Sem Value) (g : D → D → S → Option Bool) : Prop :=
  ∀ {τ : List Addr} (pins : List (Addr × Obj)) (sh : Shared) (σ : L2.St) (H : Hp) (x y : V) (v u : Value) (Q : VK) (φ : Ph) (s : S) (d e : D) (b : Bool), Inv X pins σ H sh → RelV x v → RelV y u →
    Rel (qx X τ) φ s H → RV (qx X τ) φ s.length H x d → RV (qx X τ) φ s.length H y e → g d e s = some b → Q (.bl b) H → wpAny (model X.prog X.w) X.A (f v u) (EP X pins σ Q) X.xe sh
section
variable {X : Cx}
theorem eqD_inv {s : S} {d e : D} {b : Bool} (h : eqD s d e = some b) : pur (view s d) = true ∧ pur (view s e) = true ∧ min (dep (view s d)) (dep (view s e)) ≤ 64 ∧ b = deq (view s d) (view s e) := by
  unfold eqD at h
  by_cases c : (pur (view s d) && pur (view s e) && decide (min (dep (view s d)) (dep (view s e)) ≤ 64)) = true
  · simp only [c, if_true, Option.some.injEq] at h
    simp only [Bool.and_eq_true, decide_eq_true_eq] at c
    exact ⟨c.1.1, c.1.2, c.2, h.symm⟩
  · simp only [c] at h
    cases h
theorem ob_eq (hu : X.A.units + 70 < cLine) : OpB X (compareOp .Eq) (cmpD .eq) := by
  intro τ pins sh σ H x y v u Q φ s d e b I rx ry r hx hy h hq
  obtain ⟨p1, p2, p3, rfl⟩ := eqD_inv (show eqD s d e = some b from h)
  obtain ⟨d1, c1⟩ := view_dp r hx p1
  obtain ⟨d2, c2⟩ := view_dp r hy p2
  obtain ⟨as, r1⟩ := Dp.reads I _ x v d1 rx
  obtain ⟨bs, r2⟩ := Dp.reads I _ y u d2 ry
  refine SeqAt.compareEq_reads r1 r2 c1 c2 (by rw [depth_dep _ p1, depth_dep _ p2]; omega) ⟨.bl _, H, I, rfl, ?_⟩
  rw [eqv_deq _ _ p1 p2]
  exact hq
theorem ob_ne (hu : X.A.units + 70 < cLine) : OpB X (compareOp .NotEq) (cmpD .ne) := by
  intro τ pins sh σ H x y v u Q φ s d e b I rx ry r hx hy h hq
  have h : (eqD s d e).map (!·) = some b := h
  cases h0 : eqD s d e with
  | none => rw [h0] at h; cases h
  | some b0 =>
    rw [h0] at h
    cases h
    obtain ⟨p1, p2, p3, rfl⟩ := eqD_inv h0
    obtain ⟨d1, c1⟩ := view_dp r hx p1
    obtain ⟨d2, c2⟩ := view_dp r hy p2
    obtain ⟨as, r1⟩ := Dp.reads I _ x v d1 rx
    obtain ⟨bs, r2⟩ := Dp.reads I _ y u d2 ry
    refine SeqAt.compareNe_reads r1 r2 c1 c2 (by rw [depth_dep _ p1, depth_dep _ p2]; omega) ⟨.bl _, H, I, rfl, ?_⟩
    rw [eqv_deq _ _ p1 p2]
    exact hq
theorem ints_cmp {o : COp} {d e : D} {s : S} {b : Bool} (ho : o = .le ∨ o = .gt ∨ o = .ge) (h : cmpD o d e s = some b) : ∃ i j, d = .int i ∧ e = .int j := by
  rcases ho with rfl | rfl | rfl <;> (cases d <;> cases e <;> first | exact ⟨_, _, rfl, rfl⟩ | (cases h))
theorem ob_le : OpB X (compareOp .LtE) (cmpD .le) := by
  intro τ pins sh σ H x y v u Q φ s d e b I rx ry r hx hy h hq
  obtain ⟨i, j, rfl, rfl⟩ := ints_cmp (.inl rfl) h
  cases hx; cases hy; cases h
  exact op_le pins sh σ H _ _ v u Q I rx ry ⟨i, j, rfl, rfl, hq⟩
theorem ob_gt : OpB X (compareOp .Gt) (cmpD .gt) := by
  intro τ pins sh σ H x y v u Q φ s d e b I rx ry r hx hy h hq
  obtain ⟨i, j, rfl, rfl⟩ := ints_cmp (.inr (.inl rfl)) h
  cases hx; cases hy; cases h
  exact op_gt pins sh σ H _ _ v u Q I rx ry ⟨i, j, rfl, rfl, hq⟩
theorem ob_ge : OpB X (compareOp .GtE) (cmpD .ge) := by
  intro τ pins sh σ H x y v u Q φ s d e b I rx ry r hx hy h hq
  obtain ⟨i, j, rfl, rfl⟩ := ints_cmp (.inr (.inr rfl)) h
  cases hx; cases hy; cases h
  exact op_ge pins sh σ H _ _ v u Q I rx ry ⟨i, j, rfl, rfl, hq⟩

theorem inD_dct {s : S} {d e : D} {b : Bool} {kvs : Kvs} (h : inD s d e = some b) (hd : dctOf s e = some kvs) : dOk kvs d = true ∧ b = (dGet kvs d).isSome := by
  unfold inD at h
  rw [hd] at h
  have h : (if dOk kvs d = true then some (dGet kvs d).isSome else none) = some b := h
  by_cases c : dOk kvs d = true
  · rw [if_pos c] at h; exact ⟨c, (Option.some.inj h).symm⟩
  · rw [if_neg c] at h; cases h
theorem inD_inv {s : S} {d e : D} {b : Bool} (h : inD s d e = some b) (hd : dctOf s e = none) : pur (view s d) = true ∧ dep (view s d) ≤ 60 ∧ ∃ ds, (e = .tup ds ∨ lstOf s e = some ds) ∧ purs ds = true ∧ b = ds.any fun z => deq z (view s d) := by
  have key : ∀ ds, (if pur (view s d) && purs ds && decide (dep (view s d) ≤ 60) then some (ds.any fun z => deq z (view s d)) else none) = some b → pur (view s d) = true ∧ purs ds = true ∧ dep (view s d) ≤ 60 ∧ b = ds.any fun z => deq z (view s d) := fun ds g => by
    by_cases c : (pur (view s d) && purs ds && decide (dep (view s d) ≤ 60)) = true
    · rw [if_pos c] at g
      simp only [Bool.and_eq_true, decide_eq_true_eq] at c
      exact ⟨c.1.1, c.1.2, c.2, (Option.some.inj g).symm⟩
    · rw [if_neg c] at g
      cases g
  have lists : (match lstOf s e with
    | some ds => if pur (view s d) && purs ds && decide (dep (view s d) ≤ 60) then some (ds.any fun z => deq z (view s d)) else none
    | none => none) = some b → pur (view s d) = true ∧ dep (view s d) ≤ 60 ∧ ∃ ds, (e = .tup ds ∨ lstOf s e = some ds) ∧ purs ds = true ∧ b = ds.any fun z => deq z (view s d) := fun g => by
    revert g
    cases h1 : lstOf s e with
    | none => intro g; cases g
    | some ds =>
      intro g
      obtain ⟨q1, q2, q3, q4⟩ := key ds g
      exact ⟨q1, q3, ds, .inr rfl, q2, q4⟩
  unfold inD at h
  rw [hd] at h
  cases e with
  | tup ds =>
    obtain ⟨q1, q2, q3, q4⟩ := key ds h
    exact ⟨q1, q3, ds, .inl rfl, q2, q4⟩
  | _ => exact lists h
theorem in_core (hu : X.A.units + 70 < cLine) {neg : Bool} {pins : List (Addr × Obj)} {sh : Shared} {σ : L2.St} {H : Hp} {x y : V} {v u : Value} {Q : VK} {φ : Ph} {s : S} {d e : D} {b : Bool} (I : Inv X pins σ H sh) (rx : RelV x v) (ry : RelV y u)
    (r : Rel (qx X τ) φ s H) (hx : RV (qx X τ) φ s.length H x d) (hy : RV (qx X τ) φ s.length H y e) (h : inD s d e = some b) (hq : Q (.bl (if neg then !b else b)) H) :
    wpAny (model X.prog X.w) X.A (compareOp (if neg then .NotIn else .In) v u) (EP X pins σ Q) X.xe sh := by
  cases hd : dctOf s e with
  | some kvs =>
    obtain ⟨i, rfl, rfl, _, _, hc⟩ := dctOf_rel r hy hd
    obtain ⟨ok, rfl⟩ := inD_dct h hd
    cases ry
    exact c_in (neg := neg) hu I hc ok hx rx fun s' I' => ⟨.bl _, H, I', rfl, hq⟩
  | none =>
  obtain ⟨p1, p2, ds, he, p3, rfl⟩ := inD_inv h hd
  obtain ⟨d1, c1⟩ := view_dp r hx p1
  obtain ⟨as, r1⟩ := Dp.reads I _ x v d1 rx
  have any_eq : (toPys ds).any (fun z => PyData.eqv z (toPy (view s d))) = ds.any fun z => deq z (view s d) := toPys_any ds _ _ fun z hz => eqv_deq z _ (purs_mem p3 z hz) p1
  have room : X.A.units + 1 + min (PyData.depthAll (toPys ds)) (toPy (view s d)).depth < cLine := by rw [depth_dep _ p1]; omega
  rcases he with rfl | he
  · cases hy with
    | tup q rr =>
      obtain ⟨h1, h2⟩ := RVs.dp ds rr p3
      obtain ⟨bs, r2⟩ := Dp.reads I (.tuple (toPys ds)) _ u (.tup q h1) ry
      cases neg with
      | true => exact SeqAt.notIn_tuple_reads r2 r1 h2 c1 room ⟨.bl _, H, I, rfl, by rw [any_eq]; exact hq⟩
      | false => exact SeqAt.in_tuple_reads r2 r1 h2 c1 room ⟨.bl _, H, I, rfl, by rw [any_eq]; exact hq⟩
  · obtain ⟨p, vs, rfl, q1, q2⟩ := lstOf_rel r hy he
    obtain ⟨h1, h2⟩ := RVs.dp ds q2 p3
    obtain ⟨bs, r2⟩ := Dp.reads I (.list (toPys ds)) _ u (.lst (SqL.of q1) h1) ry
    cases neg with
    | true => exact SeqAt.notIn_list_reads r2 r1 h2 c1 room ⟨.bl _, H, I, rfl, by rw [any_eq]; exact hq⟩
    | false => exact SeqAt.in_list_reads r2 r1 h2 c1 room ⟨.bl _, H, I, rfl, by rw [any_eq]; exact hq⟩
theorem ob_in (hu : X.A.units + 70 < cLine) : OpB X (compareOp .In) (cmpD .isin) := by
  intro τ pins sh σ H x y v u Q φ s d e b I rx ry r hx hy h hq
  exact in_core (neg := false) hu I rx ry r hx hy h hq
theorem ob_notin (hu : X.A.units + 70 < cLine) : OpB X (compareOp .NotIn) (cmpD .notin) := by
  intro τ pins sh σ H x y v u Q φ s d e b I rx ry r hx hy h hq
  have h : (inD s d e).map (!·) = some b := h
  cases h0 : inD s d e with
  | none => rw [h0] at h; cases h
  | some b0 =>
    rw [h0] at h
    cases h
    exact in_core (neg := true) hu I rx ry r hx hy h0 hq
theorem ob_lt (hu : X.A.units + 70 < cLine) : OpB X (compareOp .Lt) (cmpD .lt) := by
  intro τ pins sh σ H x y v u Q φ s d e b I rx ry r hx hy h hq
  have h : (if pur d && pur e && decide (dep d ≤ 60) && alk d e then dlt d e else none) = some b := h
  by_cases c : (pur d && pur e && decide (dep d ≤ 60) && alk d e) = true
  · rw [if_pos c] at h
    simp only [Bool.and_eq_true, decide_eq_true_eq] at c
    obtain ⟨⟨⟨p1, p2⟩, p3⟩, p4⟩ := c
    obtain ⟨d1, c1⟩ := RV.dp d hx p1
    obtain ⟨d2, c2⟩ := RV.dp e hy p2
    obtain ⟨as, r1⟩ := Dp.reads I _ x v d1 rx
    obtain ⟨bs, r2⟩ := Dp.reads I _ y u d2 ry
    refine PySem.W.rcLt_alike (toPy d) (toPy e) X.A sh v u as bs r1 r2 (alk_alike d e p4) (fun z => ?_) (by rw [depth_dep _ p1, depth_dep _ p2]; omega) X.prog X.w X.xe (EP X pins σ Q) ⟨.bl _, H, I, rfl, ?_⟩
    · cases d <;> first | (cases z; done) | (cases e <;> first | (cases h; done) | (cases z; done))
    · rw [dlt_data d e p1 p2 p4 h]
      exact hq
  · rw [if_neg c] at h
    cases h
end
section
variable {X : Cx}
theorem ob_isb : OpB X (compareOp .Is) (cmpD .isb) := by
  intro τ pins sh σ H x y v u Q φ s d e b I rx ry r hx hy h hq
  cases d with
  | bl i => cases e with
    | bl j => cases hx; cases hy; cases h; exact op_isBl pins sh σ H _ _ v u Q I rx ry ⟨i, j, rfl, rfl, hq⟩
    | _ => cases h
  | _ => cases h
theorem ob_isnb : OpB X (compareOp .IsNot) (cmpD .isnb) := by
  intro τ pins sh σ H x y v u Q φ s d e b I rx ry r hx hy h hq
  cases d with
  | bl i => cases e with
    | bl j => cases hx; cases hy; cases h; exact op_notBl pins sh σ H _ _ v u Q I rx ry ⟨i, j, rfl, rfl, hq⟩
    | _ => cases h
  | _ => cases h
end
end Kp

/-! Kp, part E: items, slices, built-in functions and methods by values. Own work. -/
namespace Kp
open PySem PySem.Spec PyProof.Rows L2

section
variable {X : Cx}
theorem atI_of {K : Kq} {φ : Ph} {n : Nat} {H : Hp} {vs : List V} {ds : List D} (r : RVs K φ n H vs ds) {i : Int} {d : D} (h : (ixD ds.length i).bind (fun j => ds[j]?) = some d) : ∃ v, atI vs i = some v ∧ RV K φ n H v d := by
  cases e : ixD ds.length i with
  | none => rw [e] at h; cases h
  | some j =>
    rw [e] at h
    obtain ⟨v, h1, h2⟩ := r.get (show ds[j]? = some d from h)
    refine ⟨v, ?_, h2⟩
    have e' : ixN vs.length i = some j := by rw [r.length]; exact e
    unfold atI
    rw [e']
    exact h1
/-- the end of a subscription -/
theorem sub_tail {prog : Program} {w : World} {A : Around} {E : Value → Shared → Prop} {s : Shared} {value slice : Expr} {o i : Value} {T id : String} {Q : Value → Shared → Prop} (hT : s.TypeIs o T)
    (hl : typeLookup (.type T) "__getitem__" = pure (some (.builtin id))) (hs : subscripted slice false o i = operate [o, i] (getItem o i)) (h : wpAny (model prog w) A (getItem o i) Q E s) : wpAny (model prog w) A (subscriptTail value slice o i) Q E s := by
  unfold subscriptTail
  refine wpAny_bind ?_
  rw [getitemInPython_of_ne hT.not_modules]
  refine wpAny_bind (wpAny_specialOf hT hl ?_)
  have last : wpAny (model prog w) A (subscripted slice false o i) (fun r s3 => wpAny (model prog w) A (letTemporaryGo value o r >>= fun _ => pure r) Q E s3) E s := by
    rw [hs]
    refine wpAny_operating ?_
    exact wpAny_mono h (fun r s3 h3 => wpAny_bind (wpAny_letTemporaryGo (wpAny_pure h3))) fun _ _ x => x
  first
    | exact wpAny_bind last
    | exact wpAny_pure (wpAny_bind last)
    | exact wpAny_bind (wpAny_pure (wpAny_bind last))
/-- a[i] -/
theorem ix_ok (hu : X.A.units + 70 < cLine) {value slice : Expr} {pins : List (Addr × Obj)} {sh : Shared} {σ : L2.St} {H : Hp} {x y : V} {v u : Value} {Q : VK} {φ : Ph} {s : S} {d e f : D} (I : Inv X pins σ H sh) (rx : RelV x v) (ry : RelV y u)
    (r : Rel (qx X τ) φ s H) (hx : RV (qx X τ) φ s.length H x d) (hy : RV (qx X τ) φ s.length H y e) (h : idxD d e s = some f) (hq : ∀ z, RV (qx X τ) φ s.length H z f → Q z H)
    (hs : subscripted slice false v u = operate [v, u] (getItem v u)) : wpAny (model X.prog X.w) X.A (subscriptTail value slice v u) (EP X pins σ Q) X.xe sh := by
  unfold idxD at h
  cases hd : dctOf s d with
  | some kvs =>
    rw [hd] at h
    have h4 : (if dOk kvs e = true then dGet kvs e else none) = some f := h
    by_cases ok : dOk kvs e = true
    · rw [if_pos ok] at h4
      obtain ⟨i, rfl, rfl, _, _, hc⟩ := dctOf_rel r hx hd
      cases rx
      exact sub_tail (cell_type I hc) PySem.F.slot_dict_getitem.lookup hs (c_getItem hu I hc ok hy ry h4 fun z w' s' I' rw' hz => ⟨z, H, I', rw', hq z hz⟩)
    · rw [if_neg ok] at h4
      cases h4
  | none =>
  rw [hd] at h
  cases e with
  | int i =>
    cases hy
    have lists : (match lstOf s d with
      | some ds => (ixD ds.length i).bind fun j => ds[j]?
      | none => none) = some f → wpAny (model X.prog X.w) X.A (subscriptTail value slice v u) (EP X pins σ Q) X.xe sh := fun g => by
      revert g
      cases h1 : lstOf s d with
      | none => intro g; cases g
      | some ds =>
        intro g
        obtain ⟨p, vs, rfl, q1, q2⟩ := lstOf_rel r hx h1
        obtain ⟨z, a1, a2⟩ := atI_of q2 g
        exact ix_list value slice pins sh σ H _ _ v u Q I rx ry ⟨p, vs, i, z, rfl, rfl, SqL.of q1, a1, hq z a2⟩ hs
    cases d with
    | tup ds =>
      cases hx with
      | tup q1 q2 =>
        obtain ⟨z, a1, a2⟩ := atI_of q2 (show (ixD ds.length i).bind (fun j => ds[j]?) = some f from h)
        exact ix_tup value slice pins sh σ H _ _ v u Q I rx ry ⟨_, _, i, z, rfl, rfl, q1, a1, hq z a2⟩ hs
    | _ => exact lists h
  | _ => cases h
theorem sIxD_eq (n d : Nat) (o : Option Int) : sIxD n d o = HT.sIx n d o := by cases o <;> rfl
theorem cut_rel {K : Kq} {φ : Ph} {n : Nat} {H : Hp} {vs : List V} {ds : List D} (r : RVs K φ n H vs ds) (lo hi : Option Int) : RVs K φ n H (cutV vs lo hi) (cutD ds lo hi) := by
  unfold cutV cutD
  rw [sIxD_eq, sIxD_eq, r.length]
  exact (r.drop _).take _
theorem cut_whole {ds : List D} {lo hi : Option Int} (h : HT.sIx ds.length 0 lo = 0 ∧ HT.sIx ds.length ds.length hi = ds.length) : cutD ds lo hi = ds := by
  unfold cutD
  rw [sIxD_eq, sIxD_eq, h.1, h.2, List.drop_zero, Nat.sub_zero, List.take_length]
/-- a[lo:hi] by values -/
def rSl (K : Kq) (mu : Bool) : V → Option Int → Option Int → Hp → VK → Prop := fun x lo hi H Q => ∃ φ s d f s', Rel K φ s H ∧ RV K φ s.length H x d ∧ slcD mu d lo hi s = some (f, s') ∧ PostE K φ s.length H f s' Q
theorem sl_ok {mu : Bool} : SlR X (rSl (qx X τ) mu) := by
  intro pins sh σ H x v vl vu lo hi sl Q I rx hs pl pu h
  obtain ⟨φ, s, d, f, s', r, hx, h, hq⟩ := h
  have lists : (match lstOf s d with
    | some ds => newL mu (cutD ds lo hi) s
    | none => none) = some (f, s') → ∃ T id, typeLookup (.type T) "__getitem__" = pure (some (.builtin id)) ∧ sh.TypeIs v T ∧ wpAny (model X.prog X.w) X.A (getItem v (.ref sl)) (EP X pins σ Q) X.xe sh := fun g => by
    revert g
    cases h1 : lstOf s d with
    | none => intro g; cases g
    | some ds =>
      intro g
      obtain ⟨p, vs, rfl, q1, q2⟩ := lstOf_rel r hx h1
      exact sl_list pins sh σ H _ v vl vu lo hi sl Q I rx hs pl pu ⟨p, vs, rfl, SqL.of q1, (newL_post r (cut_rel q2 lo hi) g hq).2⟩
  cases d with
  | tup ds =>
    cases hx with
    | @tup p vs _ q1 q2 =>
      have h : some (D.tup (cutD ds lo hi), s) = some (f, s') := h
      cases h
      refine sl_tupA pins sh σ H _ v vl vu lo hi sl Q I rx hs pl pu ⟨p, vs, rfl, q1, fun w => ?_, fun _ p' hp => ?_⟩
      · rw [q2.length] at w
        rw [cut_whole w] at hq
        exact hq.now r (.tup q1 q2)
      · exact hq _ _ φ (Ext.obj hp) (r.obj hp) (.tup (SqT.of upd_same) ((cut_rel q2 lo hi).mono r.cm (Ext.obj hp)))
  | rol ds =>
    cases hx with
    | rol q1 q2 => exact sl_list pins sh σ H _ v vl vu lo hi sl Q I rx hs pl pu ⟨_, _, rfl, rol_sq q1, (newL_post r (cut_rel q2 lo hi) (show newL mu (cutD ds lo hi) s = some (f, s') from h) hq).2⟩
  | _ => exact lists h

/-! ### calls of built-ins -/
def OpC (X : Cx) (f : Value) (g : List D → S → Option (D × S)) : Prop :=
  ∀ {τ : List Addr} (pins : List (Addr × Obj)) (sh : Shared) (σ : L2.St) (H : Hp) (xs : List V) (us : List Value) (Q : VK) (φ : Ph) (s : S) (ds : List D) (d' : D) (s' : S), Inv X pins σ H sh → Vals xs us →
    Rel (qx X τ) φ s H → RVs (qx X τ) φ s.length H xs ds → g ds s = some (d', s') → PostE (qx X τ) φ s.length H d' s' Q → wpAny (model X.prog X.w) X.A (call f us) (EP X pins σ Q) X.xe sh
theorem rvs1 {K : Kq} {φ : Ph} {n : Nat} {H : Hp} {xs : List V} {d : D} (r : RVs K φ n H xs [d]) : ∃ x, xs = [x] ∧ RV K φ n H x d := by
  cases r with
  | cons h r => cases r; exact ⟨_, rfl, h⟩
theorem rvs2 {K : Kq} {φ : Ph} {n : Nat} {H : Hp} {xs : List V} {d e : D} (r : RVs K φ n H xs [d, e]) : ∃ x y, xs = [x, y] ∧ RV K φ n H x d ∧ RV K φ n H y e := by
  cases r with
  | cons h r => cases r with
    | cons h2 r => cases r; exact ⟨_, _, rfl, h, h2⟩
theorem one_arg {b : Bi} {mu : Bool} {ds : List D} {s s' : S} {d' : D} (hb : b = .len ∨ b = .abs ∨ b = .int ∨ b = .maxl ∨ b = .minl ∨ b = .sum ∨ b = .list ∨ b = .tuple ∨ b = .sorted ∨ b = .listRg ∨ b = .tupRg) (h : biD b mu ds s = some (d', s')) : ∃ d, ds = [d] := by
  match ds with
  | [d] => exact ⟨d, rfl⟩
  | [] => rcases hb with rfl | rfl | rfl | rfl | rfl | rfl | rfl | rfl | rfl | rfl | rfl <;> cases h
  | a :: b :: c => rcases hb with rfl | rfl | rfl | rfl | rfl | rfl | rfl | rfl | rfl | rfl | rfl <;> (cases a <;> cases h)
theorem oc_len {mu : Bool} : OpC X (.builtin "len") (biD .len mu) := by
  intro τ pins sh σ H xs us Q φ s ds d' s' I rv r hxs h hq
  obtain ⟨d, rfl⟩ := one_arg (.inl rfl) h
  obtain ⟨x, rfl, hx⟩ := rvs1 hxs
  have seqs : (seqOf s d).map (fun xs => (D.int xs.length, s)) = some (d', s') → wpAny (model X.prog X.w) X.A (call (.builtin "len") us) (EP X pins σ Q) X.xe sh := fun g => by
    cases h1 : seqOf s d with
    | none => rw [h1] at g; cases g
    | some es =>
      rw [h1] at g
      cases g
      obtain ⟨p, vs, rfl, q1, q2⟩ := seqOf_rel r hx h1
      exact call_len_seq pins sh σ H _ us Q I rv ⟨p, vs, rfl, q1, by rw [q2.length]; exact hq.now r (.int _)⟩
  have rest : (match dctOf s d with
      | some kvs => some (D.int kvs.length, s)
      | none => (seqOf s d).map fun xs => (D.int xs.length, s)) = some (d', s') → wpAny (model X.prog X.w) X.A (call (.builtin "len") us) (EP X pins σ Q) X.xe sh := fun g => by
    cases hd : dctOf s d with
    | none =>
      rw [hd] at g
      exact seqs g
    | some kvs =>
      rw [hd] at g
      cases g
      obtain ⟨i, rfl, rfl, _, _, hc⟩ := dctOf_rel r hx hd
      obtain ⟨u, rfl, ru⟩ := vals1 rv
      cases ru
      exact c_len I hc fun t s' I' => ⟨.int _, H, I', ⟨t, rfl⟩, hq.now r (.int _)⟩
  cases d with
  | str z =>
    cases hx
    have h : (if z.length ≤ lim then some (D.int z.length, s) else none) = some (d', s') := h
    by_cases hl : z.length ≤ lim
    · rw [if_pos hl] at h
      cases h
      exact call_len_str pins sh σ H _ us Q I rv ⟨z, rfl, lim_lt hl, hq.now r (.int _)⟩
    · rw [if_neg hl] at h
      cases h
  | _ => exact rest h
theorem oc_abs {mu : Bool} : OpC X (.builtin "abs") (biD .abs mu) := by
  intro τ pins sh σ H xs us Q φ s ds d' s' I rv r hxs h hq
  obtain ⟨d, rfl⟩ := one_arg (.inr (.inl rfl)) h
  obtain ⟨x, rfl, hx⟩ := rvs1 hxs
  cases d with
  | int i => cases hx; cases h; exact call_abs pins sh σ H _ us Q I rv ⟨i, rfl, hq.now r (.int _)⟩
  | _ => cases h
theorem oc_int {mu : Bool} : OpC X (.type "int") (biD .int mu) := by
  intro τ pins sh σ H xs us Q φ s ds d' s' I rv r hxs h hq
  obtain ⟨d, rfl⟩ := one_arg (.inr (.inr (.inl rfl))) h
  obtain ⟨x, rfl, hx⟩ := rvs1 hxs
  cases d with
  | int i => cases hx; cases h; exact call_int1 pins sh σ H _ us Q I rv (.inl ⟨i, rfl, hq.now r (.int _)⟩)
  | bl i => cases hx; cases h; exact call_int1 pins sh σ H _ us Q I rv (.inr ⟨i, rfl, hq.now r (.int _)⟩)
  | _ => cases h
theorem two_ints {b : Bi} {mu : Bool} {ds : List D} {s s' : S} {d' : D} (hb : b = .min2 ∨ b = .max2) (h : biD b mu ds s = some (d', s')) : ∃ i j, ds = [.int i, .int j] := by
  match ds with
  | [.int i, .int j] => exact ⟨i, j, rfl⟩
  | [] => rcases hb with rfl | rfl <;> cases h
  | [a] => rcases hb with rfl | rfl <;> (cases a <;> cases h)
  | a :: b :: c :: e => rcases hb with rfl | rfl <;> (cases a <;> cases b <;> cases h)
  | [.non, b] => rcases hb with rfl | rfl <;> (cases b <;> cases h)
  | [.bl _, b] => rcases hb with rfl | rfl <;> (cases b <;> cases h)
  | [.str _, b] => rcases hb with rfl | rfl <;> (cases b <;> cases h)
  | [.tup _, b] => rcases hb with rfl | rfl <;> (cases b <;> cases h)
  | [.lst _, b] => rcases hb with rfl | rfl <;> (cases b <;> cases h)
  | [.ref _, b] => rcases hb with rfl | rfl <;> (cases b <;> cases h)
  | [.rol _, b] => rcases hb with rfl | rfl <;> (cases b <;> cases h)
  | [.int _, .non] => rcases hb with rfl | rfl <;> cases h
  | [.int _, .bl _] => rcases hb with rfl | rfl <;> cases h
  | [.int _, .str _] => rcases hb with rfl | rfl <;> cases h
  | [.int _, .tup _] => rcases hb with rfl | rfl <;> cases h
  | [.int _, .lst _] => rcases hb with rfl | rfl <;> cases h
  | [.int _, .ref _] => rcases hb with rfl | rfl <;> cases h
  | [.int _, .rol _] => rcases hb with rfl | rfl <;> cases h
theorem oc_min2 {mu : Bool} (hc : X.calm = true) : OpC X (.builtin "min") (biD .min2 mu) := by
  intro τ pins sh σ H xs us Q φ s ds d' s' I rv r hxs h hq
  obtain ⟨i, j, rfl⟩ := two_ints (.inl rfl) h
  obtain ⟨x, y, rfl, hx, hy⟩ := rvs2 hxs
  cases hx; cases hy; cases h
  exact call_min2 hc pins sh σ H _ us Q I rv ⟨i, j, rfl, hq.now r (.int _)⟩
theorem oc_max2 {mu : Bool} (hc : X.calm = true) : OpC X (.builtin "max") (biD .max2 mu) := by
  intro τ pins sh σ H xs us Q φ s ds d' s' I rv r hxs h hq
  obtain ⟨i, j, rfl⟩ := two_ints (.inr rfl) h
  obtain ⟨x, y, rfl, hx, hy⟩ := rvs2 hxs
  cases hx; cases hy; cases h
  exact call_max2 hc pins sh σ H _ us Q I rv ⟨i, j, rfl, hq.now r (.int _)⟩
theorem intsOf_map : ∀ {ds : List D} {ns : List Int}, intsOf ds = some ns → ds = ns.map D.int
  | [], ns, h => by cases h; rfl
  | .int i :: r, ns, h => by
    unfold intsOf at h
    cases e : intsOf r with
    | none => rw [e] at h; cases h
    | some ms => rw [e] at h; cases h; rw [intsOf_map e] <;> rfl
  | .non :: r, ns, h => by cases h
  | .bl _ :: r, ns, h => by cases h
  | .str _ :: r, ns, h => by cases h
  | .tup _ :: r, ns, h => by cases h
  | .lst _ :: r, ns, h => by cases h
  | .ref _ :: r, ns, h => by cases h
  | .rol _ :: r, ns, h => by cases h
theorem rvs_ints {K : Kq} {φ : Ph} {n : Nat} {H : Hp} : ∀ {ns : List Int} {vs : List V}, RVs K φ n H vs (ns.map D.int) → vs = ns.map V.int
  | [], _, r => by cases r; rfl
  | i :: ns, _, r => by cases r with
    | cons h r => cases h; rw [rvs_ints r]; rfl
theorem ints_lst {φ : Ph} {s : S} {H : Hp} {x : V} {d : D} {ns : List Int} (r : Rel (qx X τ) φ s H) (hx : RV (qx X τ) φ s.length H x d) (h : (lstOf s d).bind intsOf = some ns) : ∃ p, x = .ref p ∧ SqL (qx X τ) H p (ns.map V.int) := by
  cases h1 : lstOf s d with
  | none => rw [h1] at h; cases h
  | some es =>
    rw [h1] at h
    obtain ⟨p, vs, rfl, q1, q2⟩ := lstOf_rel r hx h1
    have h : intsOf es = some ns := h
    rw [intsOf_map h] at q2
    rw [rvs_ints q2] at q1
    exact ⟨p, rfl, SqL.of q1⟩
theorem oc_sum {mu : Bool} (hc : X.calm = true) : OpC X (.builtin "sum") (biD .sum mu) := by
  intro τ pins sh σ H xs us Q φ s ds d' s' I rv r hxs h hq
  obtain ⟨d, rfl⟩ := one_arg (by simp) h
  obtain ⟨x, rfl, hx⟩ := rvs1 hxs
  have h : ((lstOf s d).bind intsOf).map (fun ns => (D.int ns.sum, s)) = some (d', s') := h
  cases h1 : (lstOf s d).bind intsOf with
  | none => rw [h1] at h; cases h
  | some ns =>
    rw [h1] at h
    cases h
    obtain ⟨p, rfl, q⟩ := ints_lst r hx h1
    exact cr_sum hc pins sh σ H _ us Q I rv ⟨p, ns, rfl, q, hq.now r (.int _)⟩
theorem maxI_mem : ∀ {ns : List Int}, ns ≠ [] → maxI ns ∈ ns ∧ ∀ y ∈ ns, y ≤ maxI ns
  | [], h => absurd rfl h
  | [x], _ => ⟨by simp [maxI], fun y hy => by simp at hy; subst hy; simp [maxI]⟩
  | x :: y :: r, _ => by
    obtain ⟨h1, h2⟩ := maxI_mem (ns := y :: r) (by simp)
    have e : maxI (x :: y :: r) = max x (maxI (y :: r)) := rfl
    rw [e]
    refine ⟨?_, fun z hz => ?_⟩
    · by_cases c : x ≤ maxI (y :: r)
      · rw [Int.max_eq_right c]; exact List.mem_cons_of_mem _ h1
      · rw [Int.max_eq_left (by omega)]; exact List.mem_cons_self
    · rcases List.mem_cons.mp hz with rfl | hz
      · omega
      · have := h2 z hz
        omega
theorem minI_mem : ∀ {ns : List Int}, ns ≠ [] → minI ns ∈ ns ∧ ∀ y ∈ ns, minI ns ≤ y
  | [], h => absurd rfl h
  | [x], _ => ⟨by simp [minI], fun y hy => by simp at hy; subst hy; simp [minI]⟩
  | x :: y :: r, _ => by
    obtain ⟨h1, h2⟩ := minI_mem (ns := y :: r) (by simp)
    have e : minI (x :: y :: r) = min x (minI (y :: r)) := rfl
    rw [e]
    refine ⟨?_, fun z hz => ?_⟩
    · by_cases c : x ≤ minI (y :: r)
      · rw [Int.min_eq_left c]; exact List.mem_cons_self
      · rw [Int.min_eq_right (by omega)]; exact List.mem_cons_of_mem _ h1
    · rcases List.mem_cons.mp hz with rfl | hz
      · omega
      · have := h2 z hz
        omega
theorem oc_maxl {mu : Bool} (hc : X.calm = true) : OpC X (.builtin "max") (biD .maxl mu) := by
  intro τ pins sh σ H xs us Q φ s ds d' s' I rv r hxs h hq
  obtain ⟨d, rfl⟩ := one_arg (by simp) h
  obtain ⟨x, rfl, hx⟩ := rvs1 hxs
  have h : ((lstOf s d).bind intsOf).bind (fun ns => if ns = [] then none else some (D.int (maxI ns), s)) = some (d', s') := h
  cases h1 : (lstOf s d).bind intsOf with
  | none => rw [h1] at h; cases h
  | some ns =>
    rw [h1] at h
    have h : (if ns = [] then none else some (D.int (maxI ns), s)) = some (d', s') := h
    by_cases hn : ns = []
    · rw [if_pos hn] at h; cases h
    · rw [if_neg hn] at h
      cases h
      obtain ⟨p, rfl, q⟩ := ints_lst r hx h1
      obtain ⟨m1, m2⟩ := maxI_mem hn
      refine cr_max hc pins sh σ H _ us Q I rv ⟨p, ns, rfl, q, List.length_pos_iff.mpr hn, fun m hm hall => ?_⟩
      have e : m = maxI ns := Int.le_antisymm (m2 m hm) (hall _ m1)
      rw [e]
      exact hq.now r (.int _)
theorem oc_minl {mu : Bool} (hc : X.calm = true) : OpC X (.builtin "min") (biD .minl mu) := by
  intro τ pins sh σ H xs us Q φ s ds d' s' I rv r hxs h hq
  obtain ⟨d, rfl⟩ := one_arg (by simp) h
  obtain ⟨x, rfl, hx⟩ := rvs1 hxs
  have h : ((lstOf s d).bind intsOf).bind (fun ns => if ns = [] then none else some (D.int (minI ns), s)) = some (d', s') := h
  cases h1 : (lstOf s d).bind intsOf with
  | none => rw [h1] at h; cases h
  | some ns =>
    rw [h1] at h
    have h : (if ns = [] then none else some (D.int (minI ns), s)) = some (d', s') := h
    by_cases hn : ns = []
    · rw [if_pos hn] at h; cases h
    · rw [if_neg hn] at h
      cases h
      obtain ⟨p, rfl, q⟩ := ints_lst r hx h1
      obtain ⟨m1, m2⟩ := minI_mem hn
      refine cr_min hc pins sh σ H _ us Q I rv ⟨p, ns, rfl, q, List.length_pos_iff.mpr hn, fun m hm hall => ?_⟩
      have e : m = minI ns := Int.le_antisymm (hall _ m1) (m2 m hm)
      rw [e]
      exact hq.now r (.int _)
theorem oc_list {mu : Bool} (hcalm : X.calm = true) : OpC X (.type "list") (biD .list mu) := by
  intro τ pins sh σ H xs us Q φ s ds d' s' I rv r hxs h hq
  obtain ⟨d, rfl⟩ := one_arg (by simp) h
  obtain ⟨x, rfl, hx⟩ := rvs1 hxs
  have h : (match dctOf s d with
    | some kvs => newL mu (kvs.map (·.1)) s
    | none => (seqOf s d).bind (fun xs => newL mu xs s)) = some (d', s') := h
  cases hd : dctOf s d with
  | some kvs =>
    rw [hd] at h
    obtain ⟨i, rfl, rfl, _, _, hc⟩ := dctOf_rel r hx hd
    obtain ⟨u, rfl, ru⟩ := vals1 rv
    cases ru
    exact c_list hcalm I hc fun zs p hz hp => (newL_post r hz h hq).2 p hp
  | none =>
  rw [hd] at h
  have h : (seqOf s d).bind (fun xs => newL mu xs s) = some (d', s') := h
  cases h1 : seqOf s d with
  | none => rw [h1] at h; cases h
  | some es =>
    rw [h1] at h
    obtain ⟨p, vs, rfl, q1, q2⟩ := seqOf_rel r hx h1
    exact call_list_of pins sh σ H _ us Q I rv ⟨p, vs, rfl, q1, (newL_post r q2 h hq).2⟩
theorem oc_tuple {mu : Bool} : OpC X (.type "tuple") (biD .tuple mu) := by
  intro τ pins sh σ H xs us Q φ s ds d' s' I rv r hxs h hq
  obtain ⟨d, rfl⟩ := one_arg (by simp) h
  obtain ⟨x, rfl, hx⟩ := rvs1 hxs
  have h : (seqOf s d).bind (fun xs => newT xs s) = some (d', s') := h
  have lists : ∀ p vs es, seqOf s d = some es → x = .ref p → SqL (qx X τ) H p vs → RVs (qx X τ) φ s.length H vs es → wpAny (model X.prog X.w) X.A (call (.type "tuple") us) (EP X pins σ Q) X.xe sh := fun p vs es h1 ep q1 q2 => by
    rw [h1] at h
    subst ep
    exact call_tuple_of pins sh σ H _ us Q I rv ⟨p, vs, rfl, .inl ⟨q1, (newT_post r q2 h hq).2⟩⟩
  cases hx with
  | tup q1 q2 =>
    have h : newT _ s = some (d', s') := h
    unfold newT at h
    split at h
    · cases h
      exact call_tuple_of pins sh σ H _ us Q I rv ⟨_, _, rfl, .inr ⟨q1, hq.now r (.tup q1 q2)⟩⟩
    · cases h
  | lst q1 nc _ q2 => exact lists _ _ _ rfl rfl (SqL.of q1) q2
  | rol q1 q2 => exact lists _ _ _ rfl rfl (rol_sq q1) q2
  | ref i hi =>
    cases h1 : lstOf s (.ref i) with
    | none =>
      have h1' : seqOf s (.ref i) = none := h1
      rw [h1'] at h
      cases h
    | some es =>
      obtain ⟨p, vs, e1, e2, e3⟩ := lstOf_rel r (RV.ref i hi) h1
      exact lists p vs es h1 e1 (SqL.of e2) e3
  | _ => cases h
end
end Kp

/-! Kp, part F: sorted, methods, isinstance, stores by values. Own work. -/
namespace Kp
open PySem PySem.Spec PyProof.Rows L2

section
variable {X : Cx}
theorem each_of {K : Kq} {φ : Ph} {n : Nat} {H : Hp} : ∀ {ds : List D} {vs : List V} {us : List Value}, RVs K φ n H vs ds → Vals vs us → PySem.W.EachIs (fun u d => ∃ v, RelV v u ∧ RV K φ n H v d) us ds
  | [], _, _, r, q => by cases r; cases q; exact .nil
  | d :: ds, _, _, r, q => by
    cases r with
    | cons h r => cases q with
      | cons h2 q => exact .cons ⟨_, h2, h⟩ (each_of r q)
theorem of_each {K : Kq} {φ : Ph} {n : Nat} {H : Hp} : ∀ {ds : List D} {us : List Value}, PySem.W.EachIs (fun u d => ∃ v, RelV v u ∧ RV K φ n H v d) us ds → ∃ vs, RVs K φ n H vs ds ∧ Vals vs us
  | [], _, e => by cases e; exact ⟨[], .nil, .nil⟩
  | d :: ds, _, e => by
    cases e with
    | cons h e =>
      obtain ⟨v, h1, h2⟩ := h
      obtain ⟨vs, h3, h4⟩ := of_each e
      exact ⟨v :: vs, .cons h2 h3, .cons h1 h4⟩
theorem each_reads {φ : Ph} {n : Nat} {pins : List (Addr × Obj)} {sh : Shared} {σ : L2.St} {H : Hp} (I : Inv X pins σ H sh) : ∀ {ds : List D} {us : List Value}, purs ds = true → PySem.W.EachIs (fun u d => ∃ v, RelV v u ∧ RV (qx X τ) φ n H v d) us ds →
    PySem.W.EachIs (fun u d => ∃ as, Reads sh.heap u (toPy d) as) us ds
  | [], _, _, e => by cases e; exact .nil
  | d :: ds, _, hp, e => by
    simp only [purs, Bool.and_eq_true] at hp
    cases e with
    | cons h e =>
      obtain ⟨v, h1, h2⟩ := h
      exact .cons (Dp.reads I _ v _ (RV.dp d h2 hp.1).1 h1) (each_reads I hp.2 e)
theorem sort_rule {β : Type} (a b : β) (k : β → PyData) : PySem.W.dataLe false k a b = !PySem.W.dataLt (k b) (k a) := rfl
theorem deps_mem {ds : List D} : ∀ {d : D}, d ∈ ds → dep d ≤ deps ds := by
  induction ds with
  | nil => intro d h; cases h
  | cons e es ih =>
    intro d h
    show dep d ≤ max (dep e) (deps es)
    rcases List.mem_cons.mp h with rfl | h
    · exact Nat.le_max_left _ _
    · exact Nat.le_trans (ih h) (Nat.le_max_right _ _)
theorem oc_sorted {mu : Bool} (hu : X.A.units + 70 < cLine) : OpC X (.builtin "sorted") (biD .sorted mu) := by
  intro τ pins sh σ H xs us Q φ s ds d' s' I rv r hxs h hq
  obtain ⟨d, rfl⟩ := one_arg (by simp) h
  obtain ⟨x, rfl, hx⟩ := rvs1 hxs
  have h : ((lstOf s d).bind sortD).bind (fun xs => newL mu xs s) = some (d', s') := h
  cases h1 : lstOf s d with
  | none => rw [h1] at h; cases h
  | some es =>
    rw [h1] at h
    have h : (sortD es).bind (fun xs => newL mu xs s) = some (d', s') := h
    unfold sortD at h
    split at h
    · rename_i c
      simp only [Bool.and_eq_true, decide_eq_true_eq] at c
      obtain ⟨⟨⟨c1, c2⟩, c3⟩, c4⟩ := c
      have h : newL mu (es.mergeSort leD) s = some (d', s') := h
      obtain ⟨p, vs, rfl, q1, q2⟩ := lstOf_rel r hx h1
      obtain ⟨its, rv', pl, hz⟩ := I.list (SqL.of q1)
      have e0 := each_of q2 rv'
      obtain ⟨u, rfl, ru⟩ := vals1 rv
      cases ru
      have alk_all : ∀ a ∈ es, ∀ b ∈ es, alk a b = true := fun a ha b hb => List.all_eq_true.mp (List.all_eq_true.mp c3 a ha) b hb
      have hal : PySem.W.AllAlike (es.map toPy) := fun z hz z' hz' => by
        obtain ⟨a, ha, rfl⟩ := List.mem_map.mp hz
        obtain ⟨b, hb, rfl⟩ := List.mem_map.mp hz'
        exact alk_alike a b (alk_all a ha b hb)
      have le_eq : ∀ a ∈ es, ∀ b ∈ es, PySem.W.dataLe false toPy a b = leD a b := fun a ha b hb => by
        rw [sort_rule, ltb_data (purs_mem c1 b hb) (purs_mem c1 a ha) (alk_all b hb a ha)]
        rfl
      have esz : es.length ≤ sizeLine := by rw [← q2.length]; exact hz
      have hu2 : ∀ b, b ∈ es → X.A.units + 2 + (toPy b).depth < cLine := fun b hb => by
        rw [depth_dep b (purs_mem c1 b hb)]
        have := deps_mem hb
        omega
      have last : ∀ out, out.length = es.length → PySem.W.EachIs (fun u d => ∃ v, RelV v u ∧ RV (qx X τ) φ s.length H v d) out (es.mergeSort (PySem.W.dataLe false toPy)) →
          EP X pins σ Q (.ref (sh.heap.objs.size + 1)) { sh with heap := PyProof.Rows.sortedAll sh.heap its (List.toArray out) } := fun out hol ho => by
        rw [PySem.W.sort_congr le_eq] at ho
        obtain ⟨ws, w1, w2⟩ := of_each ho
        obtain ⟨z1, z2⟩ := newL_post r w1 h hq
        obtain ⟨ep, he'⟩ := PyProof.Rows.sortedAll_at sh.heap its (List.toArray out)
        exact ⟨.ref _, upd H (sh.heap.objs.size + 1) (.lst ws), I.laid (t' := sh.toks) (fun _ _ => PyProof.Rows.sortedAll_old) (Nat.le_succ _) ⟨z1, out, ep, w2, he'⟩, rfl, z2 _ (I.hok.fresh (Nat.le_succ _))⟩
      rcases Bool.or_eq_true_iff.mp c4 with c4 | c4
      · have tps : ∀ a ∈ es, ∃ l, a = .tup l := fun a ha => by
          have q := List.all_eq_true.mp c4 a ha
          cases a <;> first | exact ⟨_, rfl⟩ | cases q
        by_cases hem : D.tup [] ∈ es
        · refine sorted_tups (enc := toPy) pl.isList e0 (each_reads I c1 e0) hal (fun b hb => ?_) ?_ esz hu2 last
          · obtain ⟨l, rfl⟩ := tps b hb
            exact ⟨_, rfl⟩
          · exact List.mem_map.mpr ⟨_, hem, rfl⟩
        · refine PySem.W.sorted_data (enc := toPy) pl.isList e0 (each_reads I c1 e0) hal (.inl fun z hz => ?_) esz hu2 last
          obtain ⟨a, ha, rfl⟩ := List.mem_map.mp hz
          obtain ⟨l, rfl⟩ := tps a ha
          cases l with
          | nil => exact absurd ha hem
          | cons y l => exact ⟨_, _, rfl⟩
      · refine PySem.W.sorted_data (enc := toPy) pl.isList e0 (each_reads I c1 e0) hal (.inr fun z hz => ?_) esz hu2 last
        obtain ⟨a, ha, rfl⟩ := List.mem_map.mp hz
        have q := List.all_eq_true.mp c4 a ha
        cases a with
        | non => cases q
        | tup _ => cases q
        | ref _ => exact absurd (purs_mem c1 _ ha) (by simp [pur])
        | rol _ => exact absurd (purs_mem c1 _ ha) (by simp [pur])
        | _ => exact ⟨by simp [toPy], fun l => by simp [toPy]⟩
    · cases h

/-! ### methods of lists -/
def OpM (X : Cx) (id : String) (g : D → List D → S → Option (D × S)) : Prop :=
  ∀ {τ : List Addr} (pins : List (Addr × Obj)) (sh : Shared) (σ : L2.St) (H : Hp) (x : V) (xs : List V) (v : Value) (us : List Value) (Q : VK) (φ : Ph) (s : S) (d : D) (ds : List D) (d' : D) (s' : S), Inv X pins σ H sh → RelV x v → Vals xs us →
    Rel (qx X τ) φ s H → RV (qx X τ) φ s.length H x d → RVs (qx X τ) φ s.length H xs ds → g d ds s = some (d', s') → PostE (qx X τ) φ s.length H d' s' Q → wpAny (model X.prog X.w) X.A (call (.builtin id) (v :: us)) (EP X pins σ Q) X.xe sh
theorem mt_cell {m : Mt} {d d' : D} {ds : List D} {s s' : S} (hg : m ≠ .get ∧ m ≠ .get2) (h : mtD m d ds s = some (d', s')) : ∃ k xs, d = .ref k ∧ s[k]? = some (.lst xs) := by
  cases d with
  | ref k =>
    unfold mtD at h
    cases e : s[k]? with
    | none => simp [e] at h
    | some c => cases c with
      | lst xs => exact ⟨k, xs, rfl, e⟩
      | dct kvs => cases m <;> first | (simp [e] at h; done) | exact absurd rfl hg.1 | exact absurd rfl hg.2
      | ins _ _ => simp [e] at h
  | _ => cases h
theorem cell_at {φ : Ph} {s : S} {H : Hp} {k : Nat} {xs : List D} (r : Rel (qx X τ) φ s H) (e : s[k]? = some (.lst xs)) : k < s.length ∧ ∃ vs, H (φ k) = some (.lst vs) ∧ RVs (qx X τ) φ s.length H vs xs :=
  ⟨(List.getElem?_eq_some_iff.mp e).1, r.cell k _ e⟩
theorem PostE.write {φ : Ph} {s : S} {H : Hp} {k : Nat} {ys : List D} {ws : List V} {d : D} {v : V} {Q : VK} (r : Rel (qx X τ) φ s H) (hk : k < s.length) (hw : RVs (qx X τ) φ s.length H ws ys) (h : PostE (qx X τ) φ s.length H d (s.set k (.lst ys)) Q) (hv : RV (qx X τ) φ s.length H v d) : Q v (upd H (φ k) (.lst ws)) := by
  obtain ⟨x, r'⟩ := r.write hk hw
  exact h _ _ φ x r' (hv.mono r.cm x)
theorem om_append : OpM X "list.append" (mtD .append) := by
  intro τ pins sh σ H x xs v us Q φ s d ds d' s' I rx rv r hx hxs h hq
  obtain ⟨k, zs, rfl, e⟩ := mt_cell ⟨by decide, by decide⟩ h
  cases hx with
  | ref _ hk =>
    obtain ⟨_, vs, q1, q2⟩ := cell_at r e
    match ds, hxs with
    | [], _ => simp [mtD, e] at h
    | a :: b :: c, _ => simp [mtD, e] at h
    | [a], hxs =>
      obtain ⟨y, rfl, hy⟩ := rvs1 hxs
      simp only [mtD, e] at h
      by_cases hl : zs.length < lim
      · rw [if_pos hl] at h
        cases h
        refine mt_append pins sh σ H _ _ v us Q I rx rv ⟨φ k, vs, y, rfl, rfl, q1, ?_, ?_⟩
        · rw [q2.length]
          exact Nat.lt_of_lt_of_le hl lim_le
        · exact hq.write r hk (q2.append (.cons hy .nil)) .non
      · rw [if_neg hl] at h
        cases h
theorem om_pop : OpM X "list.pop" (mtD .pop) := by
  intro τ pins sh σ H x xs v us Q φ s d ds d' s' I rx rv r hx hxs h hq
  obtain ⟨k, zs, rfl, e⟩ := mt_cell ⟨by decide, by decide⟩ h
  cases hx with
  | ref _ hk =>
    obtain ⟨_, vs, q1, q2⟩ := cell_at r e
    match ds, hxs with
    | a :: c, _ => simp [mtD, e] at h
    | [], hxs =>
      cases hxs
      simp only [mtD, e] at h
      cases e2 : zs[zs.length - 1]? with
      | none => rw [e2] at h; cases h
      | some y =>
        rw [e2] at h
        cases h
        obtain ⟨w, w1, w2⟩ := q2.get e2
        exact mt_pop pins sh σ H _ _ v us Q I rx rv ⟨φ k, vs, w, rfl, rfl, q1, by rw [q2.length]; exact w1, hq.write r hk q2.dropLast w2⟩
theorem om_popAt : OpM X "list.pop" (mtD .popAt) := by
  intro τ pins sh σ H x xs v us Q φ s d ds d' s' I rx rv r hx hxs h hq
  obtain ⟨k, zs, rfl, e⟩ := mt_cell ⟨by decide, by decide⟩ h
  cases hx with
  | ref _ hk =>
    obtain ⟨_, vs, q1, q2⟩ := cell_at r e
    have go : ∀ i, ds = [.int i] → wpAny (model X.prog X.w) X.A (call (.builtin "list.pop") (v :: us)) (EP X pins σ Q) X.xe sh := fun i ed => by
      subst ed
      obtain ⟨y, rfl, hy⟩ := rvs1 hxs
      cases hy
      simp only [mtD, e] at h
      cases e2 : ixD zs.length i with
      | none => rw [e2] at h; cases h
      | some j =>
        rw [e2] at h
        have h : (match zs[j]? with
          | some y => some (y, s.set k (.lst (zs.eraseIdx j)))
          | none => none) = some (d', s') := h
        cases e3 : zs[j]? with
        | none => rw [e3] at h; cases h
        | some y =>
          rw [e3] at h
          cases h
          obtain ⟨w, w1, w2⟩ := q2.get e3
          have hn : ixN vs.length i = some j := by rw [q2.length]; exact e2
          obtain ⟨n1, n2, n3, n4⟩ := ixN_seq hn
          obtain ⟨hz, _⟩ := I.lstM q1
          have hs : sizeLine = 16777216 := sizeLine_eq
          exact mt_popAt pins sh σ H _ _ v us Q I rx rv ⟨φ k, vs, i, j, w, rfl, rfl, q1, by omega, by omega, n1, w1, hq.write r hk (q2.erase j) w2⟩
    match ds with
    | [.int i] => exact go i rfl
    | [] => simp [mtD, e] at h
    | [.non] => simp [mtD, e] at h
    | [.bl _] => simp [mtD, e] at h
    | [.str _] => simp [mtD, e] at h
    | [.tup _] => simp [mtD, e] at h
    | [.lst _] => simp [mtD, e] at h
    | [.ref _] => simp [mtD, e] at h
    | [.rol _] => simp [mtD, e] at h
    | a :: b :: c => simp [mtD, e] at h
theorem om_reverse : OpM X "list.reverse" (mtD .reverse) := by
  intro τ pins sh σ H x xs v us Q φ s d ds d' s' I rx rv r hx hxs h hq
  obtain ⟨k, zs, rfl, e⟩ := mt_cell ⟨by decide, by decide⟩ h
  cases hx with
  | ref _ hk =>
    obtain ⟨_, vs, q1, q2⟩ := cell_at r e
    match ds, hxs with
    | a :: c, _ => simp [mtD, e] at h
    | [], hxs =>
      cases hxs
      simp only [mtD, e] at h
      cases h
      exact mt_reverse pins sh σ H _ _ v us Q I rx rv ⟨φ k, vs, rfl, rfl, q1, hq.write r hk q2.reverse .non⟩

/-! ### isinstance -/
def tyName : Ty → String
  | .tint => "int" | .tbool => "bool" | .tstr => "str" | .ttuple => "tuple" | .tlist => "list"
def kindOfD (s : S) : D → Option String
  | .non => some "NoneType" | .bl _ => some "bool" | .int _ => some "int" | .str _ => some "str" | .tup _ => some "tuple" | .lst _ => some "list"
  | .ref i => match s[i]? with
    | some (.lst _) => some "list"
    | _ => none
  | .rol _ => none
theorem isi_kind {d : D} {t : Ty} {s : S} {b : Bool} (h : isiD d t s = some b) : ∃ a, kindOfD s d = some a ∧ kitB a (tyName t) = some b := by
  cases d with
  | non => cases t <;> (cases h; exact ⟨_, rfl, by decide +kernel⟩)
  | bl _ => cases t <;> (cases h; exact ⟨_, rfl, by decide +kernel⟩)
  | int _ => cases t <;> (cases h; exact ⟨_, rfl, by decide +kernel⟩)
  | str _ => cases t <;> (cases h; exact ⟨_, rfl, by decide +kernel⟩)
  | tup _ => cases t <;> (cases h; exact ⟨_, rfl, by decide +kernel⟩)
  | lst _ => cases t <;> (cases h; exact ⟨_, rfl, by decide +kernel⟩)
  | rol _ => cases t <;> cases h
  | ref i =>
    have h : (match s[i]? with
      | some (.lst _) => some (decide (t = .tlist))
      | _ => none) = some b := by cases t <;> exact h
    cases e : s[i]? with
    | none => rw [e] at h; cases h
    | some c =>
      rw [e] at h
      cases c with
      | lst ds =>
        refine ⟨"list", by simp only [kindOfD, e], ?_⟩
        cases t <;> (cases h; decide +kernel)
      | dct _ => cases h
      | ins _ _ => cases h
theorem ty_of {φ : Ph} {s : S} {H : Hp} {d : D} {x : V} {a : String} (r : Rel (qx X τ) φ s H) (hx : RV (qx X τ) φ s.length H x d) (h : kindOfD s d = some a) : TyX (qx X τ) H x (.type a) := by
  cases hx with
  | non => cases h; exact .base .non
  | bl b => cases h; exact .base (.bl b)
  | int b => cases h; exact .base (.int b)
  | str b _ => cases h; exact .base (.str b)
  | tup q _ =>
    cases h
    rcases q with (q | ⟨o, q⟩) | ⟨o, its, n, q, c, _⟩
    · exact .base (.tup q)
    · exact .fTuple q
    · exact .kTuple q c
  | lst q _ _ _ => cases h; exact .base (.lst q)
  | rol _ _ => cases h
  | ref i hi =>
    unfold kindOfD at h
    cases e : s[i]? with
    | none => simp [e] at h
    | some c =>
      have q := r.cell i c e
      cases c with
      | lst ds =>
        simp only [e, Option.some.injEq] at h
        subst h
        obtain ⟨vs, q1, _⟩ := q
        exact .base (.lst q1)
      | dct _ => simp [e] at h
      | ins _ _ => exact q.elim
theorem isi_ok {pins : List (Addr × Obj)} {sh : Shared} {σ : L2.St} {H : Hp} {x : V} {us : List Value} {Q : VK} {φ : Ph} {s : S} {d : D} {t : Ty} {b : Bool} (I : Inv X pins σ H sh) (rv : Vals [x, .ty (tyName t)] us)
    (r : Rel (qx X τ) φ s H) (hx : RV (qx X τ) φ s.length H x d) (h : isiD d t s = some b) (hq : Q (.bl b) H) : wpAny (model X.prog X.w) X.A (call (.builtin "isinstance") us) (EP X pins σ Q) X.xe sh := by
  obtain ⟨a, h1, h2⟩ := isi_kind h
  exact call_isi pins sh σ H _ us Q I rv ⟨x, _, _, _, b, rfl, .ty _, ty_of r hx h1, kit_ty h2, hq⟩

/-! ### stores -/
theorem set_ok (hu : X.A.units + 70 < cLine) {pins : List (Addr × Obj)} {sh : Shared} {σ : L2.St} {H : Hp} {o i x : V} {ov iv v : Value} {Q : Hp → Prop} {φ : Ph} {s s' : S} {d e f : D} (I : Inv X pins σ H sh) (ro : RelV o ov) (ri : RelV i iv) (rx : RelV x v)
    (r : Rel (qx X τ) φ s H) (ho : RV (qx X τ) φ s.length H o d) (hi : RV (qx X τ) φ s.length H i e) (hx : RV (qx X τ) φ s.length H x f) (h : setD d e f s = some s')
    (hq : ∀ H', Ext φ s.length H φ s'.length H' → Rel (qx X τ) φ s' H' → Q H') : wpAny (model X.prog X.w) X.A (setItem ov iv v) (fun _ s' => ∃ H', Inv X pins σ H' s' ∧ Q H') X.xe sh := by
  cases d with
  | ref k =>
    cases ho with
    | ref _ hk =>
      unfold setD at h
      cases e1 : s[k]? with
      | none => simp [e1] at h
      | some c => cases c with
        | lst xs =>
          cases e with
          | int j =>
            cases hi
            simp only [e1] at h
            cases e2 : ixD xs.length j with
            | none => rw [e2] at h; cases h
            | some m =>
              rw [e2] at h
              cases h
              obtain ⟨_, vs, q1, q2⟩ := cell_at r e1
              have hn : ixN vs.length j = some m := by rw [q2.length]; exact e2
              obtain ⟨x1, x2⟩ := r.write hk (q2.set hx m)
              exact set_list pins sh σ H _ _ x ov iv v Q I ro ri rx ⟨φ k, vs, j, m, rfl, rfl, q1, hn, hq _ x1 x2⟩
          | _ => simp [e1] at h
        | dct kvs =>
          simp only [e1] at h
          by_cases ok : dOk kvs e = true ∧ kvs.length < lim
          · rw [if_pos ok] at h
            cases h
            cases ro
            exact c_setItem hu I (r.cell k _ e1) ok.1 ok.2 hi ri hx rx (fun o d v h => h.mono r.cm (Ext.wr r.cm hk)) fun o s' I' hc' =>
              have z := r.write' hk hc'
              ⟨_, I', hq _ z.1 z.2⟩
          · rw [if_neg ok] at h
            cases h
        | ins _ _ => simp [e1] at h
  | _ => cases h
end
end Kp

/-! Kd, part D: dict(pairs), d.get by data. Own work. -/
namespace Kp
open PySem PySem.Spec PyProof.Rows L2
section
variable {X : Cx} {τ : List Addr}
theorem kp_merge {K : Kq} {φ : Ph} {n : Nat} {H : Hp} : ∀ {qs : List (Key × V)} {ps : Kvs} {xs : List (Key × V)} {kvs : Kvs}, KPs K φ n H qs ps → KPs K φ n H xs kvs → KPs K φ n H (mergeK xs qs) (dMrg kvs ps)
  | [], [], _, _, _, h => h
  | q :: qs, p :: ps, xs, kvs, .cons g t, h => by
    obtain ⟨g1, g2⟩ := keyD_of g.1
    have z := kp_put h (k := p.1) (by rw [g2]; exact g.1) g.2
    rw [g2] at z
    exact kp_merge (xs := putK xs q.1 q.2) (ps := ps) (qs := qs) t z
theorem prs_of {φ : Ph} {n : Nat} {H : Hp} : ∀ {xs : List D} {ps : Kvs} {vs : List V}, prsOf xs = some ps → (ps.all fun p => kIn p.1) = true → RVs (qx X τ) φ n H vs xs →
    ∃ (as : List Addr) (qs : List (Key × V)), vs = as.map V.ref ∧ Paired (fun p kv => SqT X.K H p [kV kv.1, kv.2]) as qs ∧ KPs (qx X τ) φ n H qs ps
  | [], ps, vs, h, _, r => by cases h; cases r; exact ⟨[], [], rfl, .nil, .nil⟩
  | x :: xs, ps, vs, h, hk, r => by
    have key : ∃ k v ps', x = .tup [k, v] ∧ prsOf xs = some ps' ∧ ps = (k, v) :: ps' := by
      unfold prsOf at h
      split at h
      · rename_i he
        cases he
      · rename_i k v r' he
        cases he
        cases e : prsOf xs with
        | none => rw [e] at h; cases h
        | some ps' => rw [e] at h; cases h; exact ⟨k, v, ps', rfl, rfl, rfl⟩
      · cases h
    obtain ⟨k, w, ps', rfl, h2, rfl⟩ := key
    rw [List.all_cons, Bool.and_eq_true] at hk
    cases r with
    | cons r1 r2 =>
      obtain ⟨as, qs, e1, e2, e3⟩ := prs_of h2 hk.2 r2
      cases r1 with
      | @tup a zs _ q rr =>
        obtain ⟨y, z, rfl, hy, hz⟩ := rvs2 rr
        have ey := keyD_v (show kIn k = true from hk.1) hy
        subst ey
        exact ⟨a :: as, (keyD k, z) :: qs, by rw [e1]; rfl, .cons q e2, .cons ⟨hy, hz⟩ e3⟩
/-- dict(pairs) -/
theorem oc_dict {mu : Bool} (hcalm : X.calm = true) : OpC X (.type "dict") (biD .dict mu) := by
  intro τ pins sh σ H xs us Q φ s ds d' s' I rv r hxs h hq
  match ds, hxs with
  | [], _ => cases h
  | a :: b :: c, _ => cases a <;> cases h
  | [d], hxs =>
    obtain ⟨x, rfl, hx⟩ := rvs1 hxs
    have h : (lstOf s d).bind (fun xs => (prsOf xs).bind fun ps => if xs.length ≤ lim ∧ (ps.all fun p => kIn p.1) = true then some (D.ref s.length, s ++ [.dct (dMrg [] ps)]) else none) = some (d', s') := by
      cases d <;> exact h
    cases h1 : lstOf s d with
    | none => rw [h1] at h; cases h
    | some es =>
      rw [h1] at h
      have h : ((prsOf es).bind fun ps => if es.length ≤ lim ∧ (ps.all fun p => kIn p.1) = true then some (D.ref s.length, s ++ [.dct (dMrg [] ps)]) else none) = some (d', s') := h
      cases h2 : prsOf es with
      | none => rw [h2] at h; cases h
      | some ps =>
        rw [h2] at h
        have h : (if es.length ≤ lim ∧ (ps.all fun p => kIn p.1) = true then some (D.ref s.length, s ++ [.dct (dMrg [] ps)]) else none) = some (d', s') := h
        by_cases hc : es.length ≤ lim ∧ (ps.all fun p => kIn p.1) = true
        · rw [if_pos hc] at h
          cases h
          obtain ⟨p, vs, rfl, q1, q2⟩ := lstOf_rel r hx h1
          obtain ⟨as, qs, rfl, e2, e3⟩ := prs_of h2 hc.2 q2
          exact call_dictP hcalm pins sh σ H _ us Q I rv ⟨p, as, qs, rfl, SqL.of q1, e2, fun b hb => newD_post r hb (kp_merge e3 .nil) hq⟩
        · rw [if_neg hc] at h
          cases h
/-- d.get -/
theorem dct_at {m : Mt} {d d' : D} {ds : List D} {s s' : S} (hm : m = .get ∨ m = .get2) (h : mtD m d ds s = some (d', s')) : ∃ k kvs, d = .ref k ∧ s[k]? = some (.dct kvs) := by
  cases d with
  | ref k =>
    unfold mtD at h
    cases e : s[k]? with
    | none => simp [e] at h
    | some c => cases c with
      | lst xs => rcases hm with rfl | rfl <;> simp [e] at h
      | dct kvs => exact ⟨k, kvs, rfl, e⟩
      | ins _ _ => simp [e] at h
  | _ => cases h
theorem om_get (hu : X.A.units + 70 < cLine) : OpM X "dict.get" (mtD .get) := by
  intro τ pins sh σ H x xs v us Q φ s d ds d' s' I rx rv r hx hxs h hq
  obtain ⟨k, kvs, rfl, e⟩ := dct_at (.inl rfl) h
  cases hx with
  | ref _ hk =>
    have hc := r.cell k _ e
    cases rx
    match ds, hxs with
    | [], _ => simp [mtD, e] at h
    | a :: b :: c, _ => simp [mtD, e] at h
    | [y], hxs =>
      obtain ⟨w, rfl, hw⟩ := rvs1 hxs
      simp only [mtD, e] at h
      by_cases ok : dOk kvs y = true
      · rw [if_pos ok] at h
        cases h
        obtain ⟨u, rfl, ru⟩ := vals1 rv
        exact c_get (more := []) (dv := .non) (du := .none) (.inl ⟨rfl, rfl⟩) hu I hc ok hw ru fun z w' s' I' rw' hz => ⟨z, H, I', rw', hq.now r hz⟩
      · rw [if_neg ok] at h
        cases h
theorem om_get2 (hu : X.A.units + 70 < cLine) : OpM X "dict.get" (mtD .get2) := by
  intro τ pins sh σ H x xs v us Q φ s d ds d' s' I rx rv r hx hxs h hq
  obtain ⟨k, kvs, rfl, e⟩ := dct_at (.inr rfl) h
  cases hx with
  | ref _ hk =>
    have hc := r.cell k _ e
    cases rx
    match ds, hxs with
    | [], _ => simp [mtD, e] at h
    | [a], _ => simp [mtD, e] at h
    | a :: b :: c :: l, _ => simp [mtD, e] at h
    | [y, f], hxs =>
      obtain ⟨w, g, rfl, hw, hg⟩ := rvs2 hxs
      simp only [mtD, e] at h
      by_cases ok : dOk kvs y = true
      · rw [if_pos ok] at h
        cases h
        obtain ⟨u, u2, rfl, ru, ru2⟩ := vals2 rv
        exact c_get (more := [u2]) (dv := g) (du := u2) (.inr ⟨rfl, ru2, hg⟩) hu I hc ok hw ru fun z w' s' I' rw' hz => ⟨z, H, I', rw', hq.now r hz⟩
      · rw [if_neg ok] at h
        cases h
end
end Kp

/-! Kp, part G: expressions' readings. Own work. -/
namespace Kp
open PySem PySem.Spec PyProof.Rows L2

def EnvR (K : Kq) (φ : Ph) (n : Nat) (H : Hp) (σ : L2.St) (env : Env) : Prop :=
  σ.length = env.length ∧ ∀ (i : Nat) (d : D), env[i]? = some (some d) → ∃ v, σ[i]? = some (some v) ∧ RV K φ n H v d
abbrev ER := Env → S → Option (D × S)
def tE (K : Kq) (r : ER) : TE := fun σ H Q => ∃ φ env s d s', Rel K φ s H ∧ EnvR K φ s.length H σ env ∧ r env s = some (d, s') ∧ PostE K φ s.length H d s' Q
def PostT (K : Kq) (φ : Ph) (n : Nat) (H : Hp) (b : Bool) (s' : S) (Q : Bool → Hp → Prop) : Prop := ∀ H' φ', Ext φ n H φ' s'.length H' → Rel K φ' s' H' → Q b H'
def tT (K : Kq) (r : ER) : TT := fun σ H Q => ∃ φ env s d s' b, Rel K φ s H ∧ EnvR K φ s.length H σ env ∧ r env s = some (d, s') ∧ truD s' d = some b ∧ PostT K φ s.length H b s' Q
def PostA (K : Kq) (φ : Ph) (n : Nat) (H : Hp) (ds : List D) (s' : S) (Q : List V → Hp → Prop) : Prop := ∀ vs H' φ', Ext φ n H φ' s'.length H' → Rel K φ' s' H' → RVs K φ' s'.length H' vs ds → Q vs H'
def tA (K : Kq) (r : Env → S → Option (List D × S)) : TA := fun σ H Q => ∃ φ env s ds s', Rel K φ s H ∧ EnvR K φ s.length H σ env ∧ r env s = some (ds, s') ∧ PostA K φ s.length H ds s' Q
def PostO (K : Kq) (φ : Ph) (n : Nat) (H : Hp) (o : Option Int) (s' : S) (Q : Option Int → Hp → Prop) : Prop := ∀ H' φ', Ext φ n H φ' s'.length H' → Rel K φ' s' H' → Q o H'
def tO (K : Kq) (r : Env → S → Option (Option Int × S)) : TO := fun σ H Q => ∃ φ env s o s', Rel K φ s H ∧ EnvR K φ s.length H σ env ∧ r env s = some (o, s') ∧ PostO K φ s.length H o s' Q

section
variable {K : Kq} {φ φ1 : Ph} {n n1 : Nat} {H H1 : Hp} {σ : L2.St} {env : Env} {s s1 : S} {d : D} {b : Bool} {ds : List D}
theorem EnvR.mono (e : EnvR K φ n H σ env) (cm : CM φ n H) (x : Ext φ n H φ1 n1 H1) : EnvR K φ1 n1 H1 σ env :=
  ⟨e.1, fun i d h => let ⟨v, h1, h2⟩ := e.2 i d h; ⟨v, h1, h2.mono cm x⟩⟩
theorem EnvR.set (e : EnvR K φ n H σ env) {v : V} (hv : RV K φ n H v d) (i : Nat) : EnvR K φ n H (σ.set i (some v)) (env.set i (some d)) := by
  refine ⟨by rw [List.length_set, List.length_set]; exact e.1, fun j f h => ?_⟩
  by_cases hj : i = j
  · subst hj
    have hl : i < env.length := by
      have := (List.getElem?_eq_some_iff.mp h).1
      rwa [List.length_set] at this
    rw [List.getElem?_set_self hl] at h
    cases h
    exact ⟨v, List.getElem?_set_self (by rw [e.1]; exact hl), hv⟩
  · rw [List.getElem?_set_ne hj] at h ⊢
    exact e.2 j f h
theorem EnvR.wipe (e : EnvR K φ n H σ env) : ∀ own : List Nat, EnvR K φ n H (wipe σ own) (wipeD env own)
  | [] => e
  | v :: vs => by
    have h := EnvR.wipe e vs
    show EnvR K φ n H ((L2.wipe σ vs).set v none) ((wipeD env vs).set v none)
    refine ⟨by rw [List.length_set, List.length_set]; exact h.1, fun j f g => ?_⟩
    by_cases hj : v = j
    · subst hj
      have hl : v < (wipeD env vs).length := by
        have := (List.getElem?_eq_some_iff.mp g).1
        rwa [List.length_set] at this
      rw [List.getElem?_set_self hl] at g
      cases g
    · rw [List.getElem?_set_ne hj] at g ⊢
      exact h.2 j f g
theorem tE_go {r : ER} {P : VK} (rel : Rel K φ s H) (e : EnvR K φ s.length H σ env) (h : r env s = some (d, s1))
    (k : ∀ v H1 φ1, Ext φ s.length H φ1 s1.length H1 → Rel K φ1 s1 H1 → EnvR K φ1 s1.length H1 σ env → RV K φ1 s1.length H1 v d → P v H1) : tE K r σ H P :=
  ⟨φ, env, s, d, s1, rel, e, h, fun v H' φ' x r' v' => k v H' φ' x r' (e.mono rel.cm x) v'⟩
theorem tT_go {r : ER} {P : Bool → Hp → Prop} (rel : Rel K φ s H) (e : EnvR K φ s.length H σ env) (h : r env s = some (d, s1)) (hb : truD s1 d = some b)
    (k : ∀ H1 φ1, Ext φ s.length H φ1 s1.length H1 → Rel K φ1 s1 H1 → EnvR K φ1 s1.length H1 σ env → P b H1) : tT K r σ H P :=
  ⟨φ, env, s, d, s1, b, rel, e, h, hb, fun H' φ' x r' => k H' φ' x r' (e.mono rel.cm x)⟩
theorem tA_go {r : Env → S → Option (List D × S)} {P : List V → Hp → Prop} (rel : Rel K φ s H) (e : EnvR K φ s.length H σ env) (h : r env s = some (ds, s1))
    (k : ∀ vs H1 φ1, Ext φ s.length H φ1 s1.length H1 → Rel K φ1 s1 H1 → EnvR K φ1 s1.length H1 σ env → RVs K φ1 s1.length H1 vs ds → P vs H1) : tA K r σ H P :=
  ⟨φ, env, s, ds, s1, rel, e, h, fun v H' φ' x r' v' => k v H' φ' x r' (e.mono rel.cm x) v'⟩
theorem tO_go {r : Env → S → Option (Option Int × S)} {o : Option Int} {P : Option Int → Hp → Prop} (rel : Rel K φ s H) (e : EnvR K φ s.length H σ env) (h : r env s = some (o, s1))
    (k : ∀ H1 φ1, Ext φ s.length H φ1 s1.length H1 → Rel K φ1 s1 H1 → EnvR K φ1 s1.length H1 σ env → P o H1) : tO K r σ H P :=
  ⟨φ, env, s, o, s1, rel, e, h, fun H' φ' x r' => k H' φ' x r' (e.mono rel.cm x)⟩
end
section
variable {X : Cx} {e a b c : Expr} {pos : Pos} {ra rb rc : ER}
theorem pe_imp {t t' : TE} (h : PE X e t) (k : ∀ σ H Q, t' σ H Q → t σ H Q) : PE X e t' := ⟨fun pins s σ H Q I hw => h.run pins s σ H Q I (k σ H Q hw)⟩
theorem pt_imp {t t' : TT} (h : PT X e t) (k : ∀ σ H Q, t' σ H Q → t σ H Q) : PT X e t' := ⟨fun pins s σ H Q I hw => h.run pins s σ H Q I (k σ H Q hw)⟩
theorem pw_imp {t t' : TT} (h : PW X e t) (k : ∀ σ H Q, t' σ H Q → t σ H Q) : PW X e t' := ⟨fun wh pins s σ H Q I hw => h.run wh pins s σ H Q I (k σ H Q hw)⟩
theorem pa_imp {es : List Expr} {t t' : TA} (h : PA X es t) (k : ∀ σ H Q, t' σ H Q → t σ H Q) : PA X es t' := ⟨fun p pins s σ H Q I hw => h.run p pins s σ H Q I (k σ H Q hw)⟩
theorem po_imp {o : Option Expr} {t t' : TO} (h : PO X o t) (k : ∀ σ H Q, t' σ H Q → t σ H Q) : PO X o t' := ⟨fun pins s σ H Q I hw => h.run pins s σ H Q I (k σ H Q hw)⟩

/-! ### names, constants -/
theorem se_var {i : Nat} {x : Str} (hN : X.N[i]? = some x) (hv : Vis X.env.scope x) (hd : (x == ("__debug__" : Str)) = false) (hcd : (x == ("__classdict__" : Str)) = false) :
    PE X (.Name x pos) (tE (qx X τ) fun env s => match env[i]? with
      | some (some d) => some (d, s)
      | _ => none) := by
  refine pe_imp (pe_var hN hv hd hcd) fun σ H Q ⟨φ, env, s, d, s', r, e, h, q⟩ => ?_
  have h : (match env[i]? with
      | some (some d) => some (d, s)
      | _ => none) = some (d, s') := h
  cases e1 : env[i]? with
  | none => rw [e1] at h; cases h
  | some o => cases o with
    | none => rw [e1] at h; cases h
    | some d0 =>
      rw [e1] at h
      cases h
      obtain ⟨v, h1, h2⟩ := e.2 i d e1
      exact ⟨v, h1, q.now r h2⟩
theorem se_c {v : V} {d : D} (h : PE X e (tC v)) (hv : ∀ φ n H, RV (qx X τ) φ n H v d) : PE X e (tE (qx X τ) fun _ s => some (d, s)) := by
  refine pe_imp h fun σ H Q ⟨φ, env, s, d', s', r, _, h, q⟩ => ?_
  cases h
  exact q.now r (hv _ _ _)

/-! ### operators -/
def rOp (K : Kq) (g : D → D → S → Option (D × S)) : R2 := fun x y H Q => ∃ φ s d e d' s', Rel K φ s H ∧ RV K φ s.length H x d ∧ RV K φ s.length H y e ∧ g d e s = some (d', s') ∧ PostE K φ s.length H d' s' Q
theorem op_of {f : Value → Value → Sem Value} {g : D → D → S → Option (D × S)} (h : OpS X f g) : OpR X f (rOp (qx X τ) g) := by
  intro pins s σ H x y v u Q I rx ry ⟨φ, st, d, e, d', s', r, hx, hy, hg, q⟩
  exact h pins s σ H x y v u Q φ st d e d' s' I rx ry r hx hy hg q
def rOb (K : Kq) (g : D → D → S → Option Bool) : R2 := fun x y H Q => ∃ φ s d e b, Rel K φ s H ∧ RV K φ s.length H x d ∧ RV K φ s.length H y e ∧ g d e s = some b ∧ Q (.bl b) H
theorem ob_of {f : Value → Value → Sem Value} {g : D → D → S → Option Bool} (h : OpB X f g) : OpR X f (rOb (qx X τ) g) := by
  intro pins s σ H x y v u Q I rx ry ⟨φ, st, d, e, b, r, hx, hy, hg, q⟩
  exact h pins s σ H x y v u Q φ st d e b I rx ry r hx hy hg q
theorem se_bin {op : Operator} {g : D → D → S → Option (D × S)} (ho : OpS X (binaryOp op) g) (ha : PE X a (tE (qx X τ) ra)) (hb : PE X b (tE (qx X τ) rb)) :
    PE X (.BinOp a op b pos) (tE (qx X τ) fun env s => bd (ra env s) fun x s1 => bd (rb env s1) fun y s2 => g x y s2) := by
  refine pe_imp (pe_op (op_of (τ := τ) ho) ha hb) fun σ H Q ⟨φ, env, s, d, s', r, e, h, q⟩ => ?_
  obtain ⟨x, s1, h1, h⟩ := bd_inv h
  obtain ⟨y, s2, h2, h⟩ := bd_inv h
  refine tE_go r e h1 fun v H1 φ1 x1 r1 e1 hv => tE_go r1 e1 h2 fun u H2 φ2 x2 r2 e2 hu => ?_
  exact ⟨φ2, s2, x, y, d, s', r2, hv.mono r1.cm x2, hu, h, q.ext (x1.trans r1.cm x2) r2⟩
theorem se_neg (ha : PE X a (tE (qx X τ) ra)) : PE X (.UnaryOp .USub a pos) (tE (qx X τ) fun env s => bd (ra env s) fun x s1 => match x with
    | .int i => some (.int (-i), s1)
    | _ => none) := by
  refine pe_imp (pe_un un_neg ha) fun σ H Q ⟨φ, env, s, d, s', r, e, h, q⟩ => ?_
  obtain ⟨x, s1, h1, h⟩ := bd_inv h
  refine tE_go r e h1 fun v H1 φ1 x1 r1 e1 hv => ?_
  cases x with
  | int i => cases hv; cases h; exact ⟨i, rfl, (q.ext x1 r1).now r1 (.int _)⟩
  | _ => cases h
theorem se_not (ha : PE X a (tE (qx X τ) ra)) : PE X (.UnaryOp .Not a pos) (tE (qx X τ) fun env s => bd (ra env s) fun x s1 => (truD s1 x).map fun b => (.bl (!b), s1)) := by
  refine pe_imp (pe_notT ha) fun σ H Q ⟨φ, env, s, d, s', r, e, h, q⟩ => ?_
  obtain ⟨x, s1, h1, h⟩ := bd_inv h
  refine tE_go r e h1 fun v H1 φ1 x1 r1 e1 hv => ?_
  cases hb : truD s1 x with
  | none => rw [hb] at h; cases h
  | some k =>
    rw [hb] at h
    cases h
    exact ⟨k, tru_rel r1 hv hb, (q.ext x1 r1).now r1 (.bl _)⟩
theorem se_cmp {op : CmpOp} {g : D → D → S → Option Bool} (ho : OpB X (compareOp op) g) (ha : PE X a (tE (qx X τ) ra)) (hb : PE X b (tE (qx X τ) rb)) (hm : behindInMarks op b = false) :
    PE X (.Compare a [op] [b] pos) (tE (qx X τ) fun env s => bd (ra env s) fun x s1 => bd (rb env s1) fun y s2 => (g x y s2).map fun b => (.bl b, s2)) := by
  refine pe_imp (pe_cmpR (ob_of (τ := τ) ho) ha hb hm) fun σ H Q ⟨φ, env, s, d, s', r, e, h, q⟩ => ?_
  obtain ⟨x, s1, h1, h⟩ := bd_inv h
  obtain ⟨y, s2, h2, h⟩ := bd_inv h
  refine tE_go r e h1 fun v H1 φ1 x1 r1 e1 hv => tE_go r1 e1 h2 fun u H2 φ2 x2 r2 e2 hu => ?_
  cases hg : g x y s2 with
  | none => rw [hg] at h; cases h
  | some k =>
    rw [hg] at h
    cases h
    exact ⟨φ2, _, x, y, _, r2, hv.mono r1.cm x2, hu, hg, (q.ext (x1.trans r1.cm x2) r2).now r2 (.bl _)⟩
theorem st_cmp {op : CmpOp} {g : D → D → S → Option Bool} (ho : OpB X (compareOp op) g) (ha : PE X a (tE (qx X τ) ra)) (hb : PE X b (tE (qx X τ) rb)) (hm : behindInMarks op b = false) :
    PT X (.Compare a [op] [b] pos) (tT (qx X τ) fun env s => bd (ra env s) fun x s1 => bd (rb env s1) fun y s2 => (g x y s2).map fun b => (.bl b, s2)) := by
  refine pt_imp (pt_cmpR (ob_of (τ := τ) ho) ha hb hm) fun σ H Q ⟨φ, env, s, d, s', b', r, e, h, hb', q⟩ => ?_
  obtain ⟨x, s1, h1, h⟩ := bd_inv h
  obtain ⟨y, s2, h2, h⟩ := bd_inv h
  refine tE_go r e h1 fun v H1 φ1 x1 r1 e1 hv => tE_go r1 e1 h2 fun u H2 φ2 x2 r2 e2 hu => ?_
  cases hg : g x y s2 with
  | none => rw [hg] at h; cases h
  | some k =>
    rw [hg] at h
    cases h
    cases hb'
    exact ⟨φ2, _, x, y, _, r2, hv.mono r1.cm x2, hu, hg, _, rfl, q _ _ (x1.trans r1.cm x2) r2⟩
theorem chn_inv {g1 g2 : D → D → S → Option Bool} {env : Env} {x y : D} {s2 s' : S} {d : D} (h : (match g1 x y s2 with
    | some true => bd (rc env s2) fun z s3 => (g2 y z s3).map fun b => (.bl b, s3)
    | some false => some (.bl false, s2)
    | none => none) = some (d, s')) : ∃ k, g1 x y s2 = some k ∧ (k = true → ∃ z s3 b, rc env s2 = some (z, s3) ∧ g2 y z s3 = some b ∧ d = .bl b ∧ s' = s3) ∧ (k = false → d = .bl false ∧ s' = s2) := by
  cases hg : g1 x y s2 with
  | none => rw [hg] at h; cases h
  | some k =>
    rw [hg] at h
    refine ⟨k, rfl, fun hk => ?_, fun hk => ?_⟩
    · subst hk
      obtain ⟨z, s3, h3, h⟩ := bd_inv h
      cases hg2 : g2 y z s3 with
      | none => rw [hg2] at h; cases h
      | some b => rw [hg2] at h; cases h; exact ⟨z, s', b, h3, hg2, rfl, rfl⟩
    · subst hk
      cases h
      exact ⟨rfl, rfl⟩
theorem chn_core {g1 g2 : D → D → S → Option Bool} {σ : L2.St} {H : Hp} {P : VK} {φ : Ph} {env : Env} {s s' : S} {d : D} (r : Rel (qx X τ) φ s H) (e : EnvR (qx X τ) φ s.length H σ env)
    (h : (bd (ra env s) fun x s1 => bd (rb env s1) fun y s2 => match g1 x y s2 with
      | some true => bd (rc env s2) fun z s3 => (g2 y z s3).map fun b => (.bl b, s3)
      | some false => some (.bl false, s2)
      | none => none) = some (d, s'))
    (q : ∀ k H' φ', d = .bl k → Ext φ s.length H φ' s'.length H' → Rel (qx X τ) φ' s' H' → P (.bl k) H') : tChain (rOb (qx X τ) g1) (rOb (qx X τ) g2) (tE (qx X τ) ra) (tE (qx X τ) rb) (tE (qx X τ) rc) σ H P := by
  obtain ⟨x, s1, h1, h⟩ := bd_inv h
  obtain ⟨y, s2, h2, h⟩ := bd_inv h
  obtain ⟨k, hg, ht, hf⟩ := chn_inv h
  refine tE_go r e h1 fun v H1 φ1 x1 r1 e1 hv => tE_go r1 e1 h2 fun u H2 φ2 x2 r2 e2 hu => ?_
  refine ⟨φ2, s2, x, y, k, r2, hv.mono r1.cm x2, hu, hg, k, rfl, ?_⟩
  cases k with
  | true =>
    rw [if_pos rfl]
    obtain ⟨z, s3, b, h3, h4, rfl, rfl⟩ := ht rfl
    refine tE_go r2 e2 h3 fun w H3 φ3 x3 r3 e3 hw => ?_
    exact ⟨φ3, s', y, z, b, r3, hu.mono r2.cm x3, hw, h4, q b _ _ rfl ((x1.trans r1.cm x2).trans r2.cm x3) r3⟩
  | false =>
    rw [if_neg Bool.false_ne_true]
    obtain ⟨rfl, rfl⟩ := hf rfl
    exact q false _ _ rfl (x1.trans r1.cm x2) r2
theorem se_chn {op op' : CmpOp} {g1 g2 : D → D → S → Option Bool} (ho : OpB X (compareOp op) g1) (ho' : OpB X (compareOp op') g2) (ha : PE X a (tE (qx X τ) ra)) (hb : PE X b (tE (qx X τ) rb)) (hc : PE X c (tE (qx X τ) rc)) (hm : lastMarks [op, op'] [b, c] = false) :
    PE X (.Compare a [op, op'] [b, c] pos) (tE (qx X τ) fun env s => bd (ra env s) fun x s1 => bd (rb env s1) fun y s2 => match g1 x y s2 with
      | some true => bd (rc env s2) fun z s3 => (g2 y z s3).map fun b => (.bl b, s3)
      | some false => some (.bl false, s2)
      | none => none) := by
  refine pe_imp (pe_chain (ob_of (τ := τ) ho) (ob_of (τ := τ) ho') ha hb hc hm) fun σ H Q ⟨φ, env, s, d, s', r, e, h, q⟩ => ?_
  exact chn_core r e h fun k H' φ' ed x' r' => q _ _ _ x' r' (by rw [ed]; exact .bl k)
theorem st_chn {op op' : CmpOp} {g1 g2 : D → D → S → Option Bool} (ho : OpB X (compareOp op) g1) (ho' : OpB X (compareOp op') g2) (ha : PE X a (tE (qx X τ) ra)) (hb : PE X b (tE (qx X τ) rb)) (hc : PE X c (tE (qx X τ) rc)) (hm : lastMarks [op, op'] [b, c] = false) :
    PT X (.Compare a [op, op'] [b, c] pos) (tT (qx X τ) fun env s => bd (ra env s) fun x s1 => bd (rb env s1) fun y s2 => match g1 x y s2 with
      | some true => bd (rc env s2) fun z s3 => (g2 y z s3).map fun b => (.bl b, s3)
      | some false => some (.bl false, s2)
      | none => none) := by
  refine pt_imp (pt_chain (ob_of (τ := τ) ho) (ob_of (τ := τ) ho') ha hb hc hm) fun σ H Q ⟨φ, env, s, d, s', b', r, e, h, hb', q⟩ => ?_
  refine chn_core r e h fun k H' φ' ed x' r' => ⟨k, rfl, ?_⟩
  rw [ed] at hb'
  cases hb'
  exact q _ _ x' r'
theorem st_not (ha : PT X a (tT (qx X τ) ra)) : PT X (.UnaryOp .Not a pos) (tT (qx X τ) fun env s => bd (ra env s) fun x s1 => (truD s1 x).map fun b => (.bl (!b), s1)) := by
  refine pt_imp (pt_not ha) fun σ H Q ⟨φ, env, s, d, s', b', r, e, h, hb', q⟩ => ?_
  obtain ⟨x, s1, h1, h⟩ := bd_inv h
  cases hb : truD s1 x with
  | none => rw [hb] at h; cases h
  | some k =>
    rw [hb] at h
    cases h
    cases hb'
    exact tT_go r e h1 hb fun H1 φ1 x1 r1 e1 => q _ _ x1 r1
/-- a test by its value's truth -/
theorem st_truth (ha : PE X a (tE (qx X τ) ra)) (he : ∀ whole, isTrue a X.env whole = (do let v ← whole; standAt a.pos; holding [v] (truthy v))) : PT X a (tT (qx X τ) ra) := by
  refine pt_imp (pt_truth ha he) fun σ H Q ⟨φ, env, s, d, s', b', r, e, h, hb', q⟩ => ?_
  exact tE_go r e h fun v H1 φ1 x1 r1 e1 hv => ⟨b', tru_rel r1 hv hb', q _ _ x1 r1⟩
theorem se_isn {j : Nat} {p2 : Pos} (ha : PE X a (tE (qx X τ) ra)) : PE X (.Compare a [.Is] [.Constant .none j p2] pos) (tE (qx X τ) fun env s => bd (ra env s) fun x s1 => some (.bl (decide (x = .non)), s1)) := by
  refine pe_imp (pe_cmpR op_isN ha pe_non (nomark _)) fun σ H Q ⟨φ, env, s, d, s', r, e, h, q⟩ => ?_
  obtain ⟨x, s1, h1, h⟩ := bd_inv h
  cases h
  refine tE_go r e h1 fun v H1 φ1 x1 r1 e1 hv => ⟨rfl, ?_⟩
  have ev : decide (v = .non) = decide (x = .non) := by cases hv <;> simp
  rw [ev]
  exact (q.ext x1 r1).now r1 (.bl _)
theorem se_ntn {j : Nat} {p2 : Pos} (ha : PE X a (tE (qx X τ) ra)) : PE X (.Compare a [.IsNot] [.Constant .none j p2] pos) (tE (qx X τ) fun env s => bd (ra env s) fun x s1 => some (.bl (!decide (x = .non)), s1)) := by
  refine pe_imp (pe_cmpR op_notN ha pe_non (nomark _)) fun σ H Q ⟨φ, env, s, d, s', r, e, h, q⟩ => ?_
  obtain ⟨x, s1, h1, h⟩ := bd_inv h
  cases h
  refine tE_go r e h1 fun v H1 φ1 x1 r1 e1 hv => ⟨rfl, ?_⟩
  have ev : decide (v = .non) = decide (x = .non) := by cases hv <;> simp
  rw [ev]
  exact (q.ext x1 r1).now r1 (.bl _)
theorem st_isn {j : Nat} {p2 : Pos} (ha : PE X a (tE (qx X τ) ra)) : PT X (.Compare a [.Is] [.Constant .none j p2] pos) (tT (qx X τ) fun env s => bd (ra env s) fun x s1 => some (.bl (decide (x = .non)), s1)) := by
  refine pt_imp (pt_cmpR op_isN ha pe_non (nomark _)) fun σ H Q ⟨φ, env, s, d, s', b', r, e, h, hb', q⟩ => ?_
  obtain ⟨x, s1, h1, h⟩ := bd_inv h
  cases h
  cases hb'
  refine tE_go r e h1 fun v H1 φ1 x1 r1 e1 hv => ⟨rfl, _, rfl, ?_⟩
  have ev : decide (v = .non) = decide (x = .non) := by cases hv <;> simp
  rw [ev]
  exact q _ _ x1 r1
theorem st_ntn {j : Nat} {p2 : Pos} (ha : PE X a (tE (qx X τ) ra)) : PT X (.Compare a [.IsNot] [.Constant .none j p2] pos) (tT (qx X τ) fun env s => bd (ra env s) fun x s1 => some (.bl (!decide (x = .non)), s1)) := by
  refine pt_imp (pt_cmpR op_notN ha pe_non (nomark _)) fun σ H Q ⟨φ, env, s, d, s', b', r, e, h, hb', q⟩ => ?_
  obtain ⟨x, s1, h1, h⟩ := bd_inv h
  cases h
  cases hb'
  refine tE_go r e h1 fun v H1 φ1 x1 r1 e1 hv => ⟨rfl, _, rfl, ?_⟩
  have ev : decide (v = .non) = decide (x = .non) := by cases hv <;> simp
  rw [ev]
  exact q _ _ x1 r1
theorem se_ite (hc : PT X c (tT (qx X τ) rc)) (ha : PE X a (tE (qx X τ) ra)) (hb : PE X b (tE (qx X τ) rb)) : PE X (.IfExp c a b pos) (tE (qx X τ) fun env s => bd (rc env s) fun x s1 => match truD s1 x with
    | some true => ra env s1
    | some false => rb env s1
    | none => none) := by
  refine pe_imp (pe_ifExp hc ha hb) fun σ H Q ⟨φ, env, s, d, s', r, e, h, q⟩ => ?_
  obtain ⟨x, s1, h1, h⟩ := bd_inv h
  cases hb : truD s1 x with
  | none => rw [hb] at h; cases h
  | some k =>
    rw [hb] at h
    refine tT_go r e h1 hb fun H1 φ1 x1 r1 e1 => ?_
    cases k with
    | true => rw [if_pos rfl]; exact ⟨φ1, _, s1, d, s', r1, e1, h, q.ext x1 r1⟩
    | false => rw [if_neg Bool.false_ne_true]; exact ⟨φ1, _, s1, d, s', r1, e1, h, q.ext x1 r1⟩
/-- and, or: the first, the rest -/
theorem se_one {op : BoolOp} (ha : PE X a (tE (qx X τ) ra)) : PE X (.BoolOp op [a] pos) (tE (qx X τ) fun env s => bd (ra env s) fun x s1 => some (x, s1)) := by
  refine pe_imp (pe_one ha) fun σ H Q ⟨φ, env, s, d, s', r, e, h, q⟩ => ?_
  obtain ⟨x, s1, h1, h⟩ := bd_inv h
  cases h
  exact ⟨φ, env, s, d, s', r, e, h1, q⟩
theorem se_and {rest : List Expr} (ha : PE X a (tE (qx X τ) ra)) (hb : PE X (.BoolOp .And (b :: rest) pos) (tE (qx X τ) rb)) : PE X (.BoolOp .And (a :: b :: rest) pos) (tE (qx X τ) fun env s => bd (ra env s) fun x s1 => match truD s1 x with
    | some true => rb env s1
    | some false => some (x, s1)
    | none => none) := by
  refine pe_imp (pe_andT ha hb) fun σ H Q ⟨φ, env, s, d, s', r, e, h, q⟩ => ?_
  obtain ⟨x, s1, h1, h⟩ := bd_inv h
  cases hb : truD s1 x with
  | none => rw [hb] at h; cases h
  | some k =>
    rw [hb] at h
    refine tE_go r e h1 fun v H1 φ1 x1 r1 e1 hv => ⟨k, tru_rel r1 hv hb, ?_⟩
    cases k with
    | true => rw [if_pos rfl]; exact ⟨φ1, _, s1, d, s', r1, e1, h, q.ext x1 r1⟩
    | false => rw [if_neg Bool.false_ne_true]; cases h; exact (q.ext x1 r1).now r1 hv
theorem se_or {rest : List Expr} (ha : PE X a (tE (qx X τ) ra)) (hb : PE X (.BoolOp .Or (b :: rest) pos) (tE (qx X τ) rb)) : PE X (.BoolOp .Or (a :: b :: rest) pos) (tE (qx X τ) fun env s => bd (ra env s) fun x s1 => match truD s1 x with
    | some true => some (x, s1)
    | some false => rb env s1
    | none => none) := by
  refine pe_imp (pe_orT ha hb) fun σ H Q ⟨φ, env, s, d, s', r, e, h, q⟩ => ?_
  obtain ⟨x, s1, h1, h⟩ := bd_inv h
  cases hb : truD s1 x with
  | none => rw [hb] at h; cases h
  | some k =>
    rw [hb] at h
    refine tE_go r e h1 fun v H1 φ1 x1 r1 e1 hv => ⟨k, tru_rel r1 hv hb, ?_⟩
    cases k with
    | true => rw [if_pos rfl]; cases h; exact (q.ext x1 r1).now r1 hv
    | false => rw [if_neg Bool.false_ne_true]; exact ⟨φ1, _, s1, d, s', r1, e1, h, q.ext x1 r1⟩
theorem st_one_and (ha : PT X a (tT (qx X τ) ra)) : PW X (.BoolOp .And [a] pos) (tT (qx X τ) fun env s => bd (ra env s) fun x s1 => some (x, s1)) := by
  refine pw_imp (pw_and1 ha) fun σ H Q ⟨φ, env, s, d, s', b', r, e, h, hb', q⟩ => ?_
  obtain ⟨x, s1, h1, h⟩ := bd_inv h
  cases h
  exact ⟨φ, env, s, d, s', b', r, e, h1, hb', q⟩
theorem st_one_or (ha : PT X a (tT (qx X τ) ra)) : PW X (.BoolOp .Or [a] pos) (tT (qx X τ) fun env s => bd (ra env s) fun x s1 => some (x, s1)) := by
  refine pw_imp (pw_or1 ha) fun σ H Q ⟨φ, env, s, d, s', b', r, e, h, hb', q⟩ => ?_
  obtain ⟨x, s1, h1, h⟩ := bd_inv h
  cases h
  exact ⟨φ, env, s, d, s', b', r, e, h1, hb', q⟩
theorem st_and {rest : List Expr} (ha : PT X a (tT (qx X τ) ra)) (hb : PW X (.BoolOp .And (b :: rest) pos) (tT (qx X τ) rb)) : PW X (.BoolOp .And (a :: b :: rest) pos) (tT (qx X τ) fun env s => bd (ra env s) fun x s1 => match truD s1 x with
    | some true => rb env s1
    | some false => some (x, s1)
    | none => none) := by
  refine pw_imp (pw_and ha hb) fun σ H Q ⟨φ, env, s, d, s', b', r, e, h, hb', q⟩ => ?_
  obtain ⟨x, s1, h1, h⟩ := bd_inv h
  cases hb : truD s1 x with
  | none => rw [hb] at h; cases h
  | some k =>
    rw [hb] at h
    refine tT_go r e h1 hb fun H1 φ1 x1 r1 e1 => ?_
    cases k with
    | true => rw [if_pos rfl]; exact ⟨φ1, _, s1, d, s', b', r1, e1, h, hb', fun H' φ' x' r' => q H' φ' (x1.trans r1.cm x') r'⟩
    | false => rw [if_neg Bool.false_ne_true]; cases h; rw [hb] at hb'; cases hb'; exact q _ _ x1 r1
theorem st_or {rest : List Expr} (ha : PT X a (tT (qx X τ) ra)) (hb : PW X (.BoolOp .Or (b :: rest) pos) (tT (qx X τ) rb)) : PW X (.BoolOp .Or (a :: b :: rest) pos) (tT (qx X τ) fun env s => bd (ra env s) fun x s1 => match truD s1 x with
    | some true => some (x, s1)
    | some false => rb env s1
    | none => none) := by
  refine pw_imp (pw_or ha hb) fun σ H Q ⟨φ, env, s, d, s', b', r, e, h, hb', q⟩ => ?_
  obtain ⟨x, s1, h1, h⟩ := bd_inv h
  cases hb : truD s1 x with
  | none => rw [hb] at h; cases h
  | some k =>
    rw [hb] at h
    refine tT_go r e h1 hb fun H1 φ1 x1 r1 e1 => ?_
    cases k with
    | true => rw [if_pos rfl]; cases h; rw [hb] at hb'; cases hb'; exact q _ _ x1 r1
    | false => rw [if_neg Bool.false_ne_true]; exact ⟨φ1, _, s1, d, s', b', r1, e1, h, hb', fun H' φ' x' r' => q H' φ' (x1.trans r1.cm x') r'⟩

/-! ### items, slices, displays, calls -/
theorem se_idx (hu : X.A.units + 70 < cLine) (ha : PE X a (tE (qx X τ) ra)) (hb : PE X b (tE (qx X τ) rb)) (hs : PlainIx b) : PE X (.Subscript a b pos) (tE (qx X τ) fun env s => bd (ra env s) fun x s1 => bd (rb env s1) fun y s2 => (idxD x y s2).map fun d => (d, s2)) := by
  have ix : IxR X (fun x y H Q => ∃ φ s d e f, Rel (qx X τ) φ s H ∧ RV (qx X τ) φ s.length H x d ∧ RV (qx X τ) φ s.length H y e ∧ idxD d e s = some f ∧ ∀ z, RV (qx X τ) φ s.length H z f → Q z H) := by
    intro value slice pins sh σ H x y v u Q I rx ry ⟨φ, s, d, e, f, r, hx, hy, h, hq⟩ hs
    exact ix_ok hu I rx ry r hx hy h hq hs
  refine pe_imp (pe_ix ix ha hb hs) fun σ H Q ⟨φ, env, s, d, s', r, e, h, q⟩ => ?_
  obtain ⟨x, s1, h1, h⟩ := bd_inv h
  obtain ⟨y, s2, h2, h⟩ := bd_inv h
  refine tE_go r e h1 fun v H1 φ1 x1 r1 e1 hv => tE_go r1 e1 h2 fun u H2 φ2 x2 r2 e2 hu => ?_
  cases hg : idxD x y s2 with
  | none => rw [hg] at h; cases h
  | some f =>
    rw [hg] at h
    cases h
    exact ⟨φ2, _, x, y, _, r2, hv.mono r1.cm x2, hu, hg, fun z hz => (q.ext (x1.trans r1.cm x2) r2).now r2 hz⟩
theorem so_none : PO X none (tO (qx X τ) fun _ s => some (none, s)) := po_imp po_none fun σ H Q ⟨φ, env, s, o, s', r, e, h, q⟩ => by
  cases h
  exact q H φ Ext.refl r
theorem so_some (ha : PE X a (tE (qx X τ) ra)) : PO X (some a) (tO (qx X τ) fun env s => bd (ra env s) fun x s1 => match x with
    | .int i => some (some i, s1)
    | _ => none) := po_imp (po_some ha) fun σ H Q ⟨φ, env, s, o, s', r, e, h, q⟩ => by
  obtain ⟨x, s1, h1, h⟩ := bd_inv h
  refine tE_go r e h1 fun v H1 φ1 x1 r1 e1 hv => ?_
  cases x with
  | int i => cases hv; cases h; exact ⟨i, rfl, q _ _ x1 r1⟩
  | _ => cases h
theorem se_slc {mu : Bool} {lo hi : Option Expr} {p2 : Pos} {rl rh : Env → S → Option (Option Int × S)} (ha : PE X a (tE (qx X τ) ra)) (hl : PO X lo (tO (qx X τ) rl)) (hh : PO X hi (tO (qx X τ) rh)) :
    PE X (.Subscript a (.Slice lo hi none p2) pos) (tE (qx X τ) fun env s => bd (ra env s) fun x s1 => bd (rl env s1) fun l s2 => bd (rh env s2) fun h s3 => slcD mu x l h s3) := by
  refine pe_imp (pe_slice (sl_ok (τ := τ) (mu := mu)) ha hl hh) fun σ H Q ⟨φ, env, s, d, s', r, e, h, q⟩ => ?_
  obtain ⟨x, s1, h1, h⟩ := bd_inv h
  obtain ⟨l, s2, h2, h⟩ := bd_inv h
  obtain ⟨u, s3, h3, h⟩ := bd_inv h
  refine tE_go r e h1 fun v H1 φ1 x1 r1 e1 hv => tO_go r1 e1 h2 fun H2 φ2 x2 r2 e2 => tO_go r2 e2 h3 fun H3 φ3 x3 r3 e3 => ?_
  exact ⟨φ3, s3, x, d, s', r3, (hv.mono r1.cm x2).mono r2.cm x3, h, q.ext ((x1.trans r1.cm x2).trans r2.cm x3) r3⟩
theorem sa_nil : PA X [] (tA (qx X τ) fun _ s => some ([], s)) := pa_imp pa_nil fun σ H Q ⟨φ, env, s, ds, s', r, e, h, q⟩ => by
  cases h
  exact q [] H φ Ext.refl r .nil
theorem sa_cons {es : List Expr} {rr : Env → S → Option (List D × S)} (ha : PE X a (tE (qx X τ) ra)) (hr : PA X es (tA (qx X τ) rr)) (hs : starEach (a :: es) X.env = (false, eval a X.env) :: starEach es X.env) :
    PA X (a :: es) (tA (qx X τ) fun env s => bd (ra env s) fun x s1 => bd (rr env s1) fun xs s2 => some (x :: xs, s2)) := pa_imp (pa_cons ha hr hs) fun σ H Q ⟨φ, env, s, ds, s', r, e, h, q⟩ => by
  obtain ⟨x, s1, h1, h⟩ := bd_inv h
  obtain ⟨xs, s2, h2, h⟩ := bd_inv h
  cases h
  refine tE_go r e h1 fun v H1 φ1 x1 r1 e1 hv => tA_go r1 e1 h2 fun vs H2 φ2 x2 r2 e2 hvs => ?_
  exact q _ _ _ (x1.trans r1.cm x2) r2 (.cons (hv.mono r1.cm x2) hvs)
theorem se_tup {es : List Expr} {k : Nat} {rr : Env → S → Option (List D × S)} (h : PA X es (tA (qx X τ) rr)) : PE X (.Tuple es k pos) (tE (qx X τ) fun env s => bd (rr env s) newT) := by
  refine pe_imp (pe_tup h) fun σ H Q ⟨φ, env, s, d, s', r, e, h, q⟩ => ?_
  obtain ⟨xs, s1, h1, h⟩ := bd_inv h
  exact tA_go r e h1 fun vs H1 φ1 x1 r1 e1 hvs => newT_post r1 hvs h (q.ext x1 r1)
theorem se_lst {mu : Bool} {es : List Expr} {rr : Env → S → Option (List D × S)} (h : PA X es (tA (qx X τ) rr)) : PE X (.List es pos) (tE (qx X τ) fun env s => bd (rr env s) (newL mu)) := by
  refine pe_imp (pe_lst h) fun σ H Q ⟨φ, env, s, d, s', r, e, h, q⟩ => ?_
  obtain ⟨xs, s1, h1, h⟩ := bd_inv h
  exact tA_go r e h1 fun vs H1 φ1 x1 r1 e1 hvs => newL_post r1 hvs h (q.ext x1 r1)
def rCl (K : Kq) (g : List D → S → Option (D × S)) : List V → Hp → VK → Prop := fun xs H Q => ∃ φ s ds d' s', Rel K φ s H ∧ RVs K φ s.length H xs ds ∧ g ds s = some (d', s') ∧ PostE K φ s.length H d' s' Q
theorem cl_of {f : Value} {g : List D → S → Option (D × S)} (h : OpC X f g) : CallR X f (rCl (qx X τ) g) := by
  intro pins s σ H xs us Q I rv ⟨φ, st, ds, d', s', r, hx, hg, q⟩
  exact h pins s σ H xs us Q φ st ds d' s' I rv r hx hg q
theorem se_callB {id : String} {x : Str} {p : Pos} {es : List Expr} {g : List D → S → Option (D × S)} {rr : Env → S → Option (List D × S)} (hc : OpC X (.builtin id) g) (hg : Gl X x) (hm : X.mg x = none) (hv : bootBuiltins x = some (.builtin id)) (ha : PA X (a :: es) (tA (qx X τ) rr))
    (hn : x ≠ "__name__") (hdb : (x == ("__debug__" : Str)) = false) (he : starEach (a :: es) X.env = (false, eval a X.env) :: starEach es X.env) (hpl : (backTo pos (starEach es X.env)).any (·.1) = false) :
    PE X (.Call (.Name x p) (a :: es) [] pos) (tE (qx X τ) fun env s => bd (rr env s) g) := by
  refine pe_imp (pe_callB (cl_of (τ := τ) hc) hg hm hv ha hn hdb he hpl) fun σ H Q ⟨φ, env, s, d, s', r, e, h, q⟩ => ?_
  obtain ⟨xs, s1, h1, h⟩ := bd_inv h
  exact tA_go r e h1 fun vs H1 φ1 x1 r1 e1 hvs => ⟨φ1, s1, xs, d, s', r1, hvs, h, q.ext x1 r1⟩
theorem se_callTy {T : String} {x : Str} {p : Pos} {es : List Expr} {g : List D → S → Option (D × S)} {rr : Env → S → Option (List D × S)} (hc : OpC X (.type T) g) (hg : Gl X x) (hm : X.mg x = none) (hv : bootBuiltins x = some (.type T)) (ha : PA X (a :: es) (tA (qx X τ) rr))
    (hn : x ≠ "__name__") (hdb : (x == ("__debug__" : Str)) = false) (he : starEach (a :: es) X.env = (false, eval a X.env) :: starEach es X.env) (hpl : (backTo pos (starEach es X.env)).any (·.1) = false) :
    PE X (.Call (.Name x p) (a :: es) [] pos) (tE (qx X τ) fun env s => bd (rr env s) g) := by
  refine pe_imp (pe_callTy (cl_of (τ := τ) hc) hg hm hv ha hn hdb he hpl) fun σ H Q ⟨φ, env, s, d, s', r, e, h, q⟩ => ?_
  obtain ⟨xs, s1, h1, h⟩ := bd_inv h
  exact tA_go r e h1 fun vs H1 φ1 x1 r1 e1 hvs => ⟨φ1, s1, xs, d, s', r1, hvs, h, q.ext x1 r1⟩
end
end Kp

/-! Kp, part H: what loops walk; targets; calls. Own work. -/
namespace Kp
open PySem PySem.Spec PyProof.Rows L2

def SqB (K : Kq) (H : Hp) (tu : Bool) (a : Addr) (vs : List V) : Prop := if tu = true then SqT K H a vs else SqL K H a vs
def SrcOk (K : Kq) (φ : Ph) (n : Nat) (H : Hp) (tu : Bool) (a : Addr) (ds : List D) (lk : Lk) : Prop :=
  ∀ (φ' : Ph) (s' : S) (H' : Hp), Ext φ n H φ' s'.length H' → Rel K φ' s' H' → lkOk lk s' = true → ∃ vs, SqB K H' tu a vs ∧ RVs K φ' s'.length H' vs ds
section
variable {K : Kq} {φ φ1 : Ph} {n n1 : Nat} {H H1 : Hp} {σ : L2.St} {env : Env} {s s1 : S} {d : D} {b : Bool} {ds : List D}
theorem lkOk_one {i : Nat} {s : S} {ds : List D} (h : lkOk [(i, ds)] s = true) : s[i]? = some (.lst ds) := by
  unfold lkOk at h
  simp only [List.all_cons, List.all_nil, Bool.and_true] at h
  split at h
  · rename_i es e
    rw [e, of_decide_eq_true h]
  · cases h
theorem lkOk_mk {i : Nat} {s : S} {ds : List D} (h : s[i]? = some (.lst ds)) : lkOk [(i, ds)] s = true := by
  unfold lkOk
  simp [h]
theorem lkOk_app {l1 l2 : Lk} {s : S} : lkOk (l1 ++ l2) s = (lkOk l1 s && lkOk l2 s) := List.all_append
theorem src_ok {v : V} {tu : Bool} {lk : Lk} (r : Rel K φ s H) (hv : RV K φ s.length H v d) (h : srcD s d = some (tu, ds, lk)) : ∃ a, v = .ref a ∧ SrcOk K φ s.length H tu a ds lk ∧ lkOk lk s = true := by
  cases d with
  | tup es =>
    cases h
    have hv' := hv
    cases hv with
    | tup q0 r0 =>
      refine ⟨_, rfl, fun φ' s' H' x r' l => ?_, rfl⟩
      have z := hv'.mono r.cm x
      cases z with
      | tup q rr => exact ⟨_, q, rr⟩
  | rol es =>
    cases h
    have hv' := hv
    cases hv with
    | rol q0 r0 =>
      refine ⟨_, rfl, fun φ' s' H' x r' l => ?_, rfl⟩
      have z := hv'.mono r.cm x
      cases z with
      | rol q rr => exact ⟨_, rol_sq q, rr⟩
  | lst es =>
    cases h
    have hv' := hv
    cases hv with
    | lst q0 _ _ r0 =>
      refine ⟨_, rfl, fun φ' s' H' x r' l => ?_, rfl⟩
      have z := hv'.mono r.cm x
      cases z with
      | lst q _ _ rr => exact ⟨_, SqL.of q, rr⟩
  | ref i =>
    unfold srcD at h
    cases e : s[i]? with
    | none => simp [e] at h
    | some c => cases c with
      | lst es =>
        simp only [e, Option.some.injEq, Prod.mk.injEq] at h
        obtain ⟨rfl, rfl, rfl⟩ := h
        cases hv with
        | ref _ hi =>
          refine ⟨_, rfl, fun φ' s' H' x r' l => ?_, lkOk_mk e⟩
          obtain ⟨vs, q1, q2⟩ := r'.cell i _ (lkOk_one l)
          refine ⟨vs, ?_, q2⟩
          rw [← x.old i hi]
          exact SqL.of q1
      | dct _ => simp [e] at h
      | ins _ _ => simp [e] at h
  | _ => cases h
def ItOk (K : Kq) (J : L2.It) (φ : Ph) (n : Nat) (H : Hp) (ds : List D) (lk : Lk) : Prop :=
  ∀ (φ' : Ph) (s' : S) (H' : Hp), Ext φ n H φ' s'.length H' → Rel K φ' s' H' → lkOk lk s' = true → ∀ i : Nat,
    (ds.length ≤ i → J.stop i H') ∧ ∀ d, ds[i]? = some d → J.go i H' ∧ ∀ v H'', J.yld i H' v H'' → ∃ φ'', Ext φ' s'.length H' φ'' s'.length H'' ∧ Rel K φ'' s' H'' ∧ RV K φ'' s'.length H'' v d
theorem it_list {a : Addr} {lk : Lk} (h : SrcOk K φ n H false a ds lk) : ItOk K (Itl K a) φ n H ds lk := by
  intro φ' s' H' x r l i
  obtain ⟨vs, q, rr⟩ := h φ' s' H' x r l
  refine ⟨fun hi => ⟨vs, q, by rw [rr.length]; exact hi⟩, fun d hd => ?_⟩
  obtain ⟨v, hv, rv⟩ := rr.get hd
  refine ⟨⟨vs, v, q, hv⟩, fun w H'' y => ?_⟩
  obtain ⟨e, y⟩ := y
  subst e
  have z := y vs q
  rw [hv] at z
  cases z
  exact ⟨φ', Ext.refl, r, rv⟩
theorem it_tup {a : Addr} {lk : Lk} (h : SrcOk K φ n H true a ds lk) : ItOk K (Itt K a) φ n H ds lk := by
  intro φ' s' H' x r l i
  obtain ⟨vs, q, rr⟩ := h φ' s' H' x r l
  refine ⟨fun hi => ⟨vs, q, by rw [rr.length]; exact hi⟩, fun d hd => ?_⟩
  obtain ⟨v, hv, rv⟩ := rr.get hd
  refine ⟨⟨vs, v, q, hv⟩, fun w H'' y => ?_⟩
  obtain ⟨e, y⟩ := y
  subst e
  have z := y vs q
  rw [hv] at z
  cases z
  exact ⟨φ', Ext.refl, r, rv⟩
theorem it_range {lo : Int} {m : Nat} : ItOk K (Itr lo m) φ n H ((List.range m).map fun i => .int (lo + (i : Nat))) [] := by
  intro φ' s' H' x r l i
  refine ⟨fun hi => by rw [List.length_map, List.length_range] at hi; exact hi, fun d hd => ?_⟩
  rw [List.getElem?_map] at hd
  cases e : (List.range m)[i]? with
  | none => rw [e] at hd; cases hd
  | some j =>
    rw [e] at hd
    cases hd
    obtain ⟨h1, h2⟩ := List.getElem?_eq_some_iff.mp e
    rw [List.getElem_range] at h2
    subst h2
    refine ⟨by rw [List.length_range] at h1; exact h1, fun w H'' y => ?_⟩
    obtain ⟨e1, e2⟩ := y
    subst e1
    subst e2
    exact ⟨φ', Ext.refl, r, .int _⟩
theorem zip_get {xs ys : List D} {i : Nat} {d : D} (h : ((xs.zip ys).map fun p => D.tup [p.1, p.2])[i]? = some d) : ∃ x y, xs[i]? = some x ∧ ys[i]? = some y ∧ d = .tup [x, y] := by
  rw [List.getElem?_map] at h
  cases e : (xs.zip ys)[i]? with
  | none => rw [e] at h; cases h
  | some p =>
    rw [e] at h
    cases h
    obtain ⟨h1, h2⟩ := List.getElem?_zip_eq_some.mp e
    exact ⟨p.1, p.2, h1, h2, rfl⟩
theorem zip_pair {φ' : Ph} {s' : S} {H' H'' : Hp} {T : Addr} {x y : V} {dx dy : D} {w : V} (r : Rel K φ' s' H') (hw : w = .ref T) (hT : H' T = none) (hH : H'' = upd H' T (.tup [x, y])) (rx : RV K φ' s'.length H' x dx) (ry : RV K φ' s'.length H' y dy) :
    ∃ φ'', Ext φ' s'.length H' φ'' s'.length H'' ∧ Rel K φ'' s' H'' ∧ RV K φ'' s'.length H'' w (.tup [dx, dy]) := by
  subst hw
  subst hH
  have x1 : Ext φ' s'.length H' φ' s'.length (upd H' T (.tup [x, y])) := Ext.obj hT
  exact ⟨φ', x1, r.obj hT, .tup (SqT.of upd_same) (.cons (rx.mono r.cm x1) (.cons (ry.mono r.cm x1) .nil))⟩
theorem it_zip {a b : Addr} {xs ys : List D} {l1 l2 : Lk} (h1 : SrcOk K φ n H false a xs l1) (h2 : SrcOk K φ n H false b ys l2) : ItOk K (Itz K a b) φ n H ((xs.zip ys).map fun p => .tup [p.1, p.2]) (l1 ++ l2) := by
  intro φ' s' H' x r l i
  rw [lkOk_app, Bool.and_eq_true] at l
  obtain ⟨vs, q, rr⟩ := h1 φ' s' H' x r l.1
  obtain ⟨ws, q', rr'⟩ := h2 φ' s' H' x r l.2
  refine ⟨fun hi => ⟨vs, ws, q, q', ?_⟩, fun d hd => ?_⟩
  · rw [rr.length, rr'.length]
    rw [List.length_map, List.length_zip] at hi
    omega
  · obtain ⟨dx, dy, e1, e2, rfl⟩ := zip_get hd
    obtain ⟨v, hv, rv⟩ := rr.get e1
    obtain ⟨u, hu, ru⟩ := rr'.get e2
    refine ⟨⟨vs, ws, v, u, q, q', hv, hu⟩, fun w H'' y => ?_⟩
    obtain ⟨T, x0, y0, ew, eT, eH, z1, z2⟩ := y
    have z1 := z1 vs q
    have z2 := z2 ws q'
    rw [hv] at z1
    rw [hu] at z2
    cases z1
    cases z2
    exact zip_pair r ew eT eH rv ru
theorem it_zipT {a b : Addr} {xs ys : List D} {l1 l2 : Lk} (h1 : SrcOk K φ n H true a xs l1) (h2 : SrcOk K φ n H true b ys l2) : ItOk K (RZ.ItzT K a b) φ n H ((xs.zip ys).map fun p => .tup [p.1, p.2]) (l1 ++ l2) := by
  intro φ' s' H' x r l i
  rw [lkOk_app, Bool.and_eq_true] at l
  obtain ⟨vs, q, rr⟩ := h1 φ' s' H' x r l.1
  obtain ⟨ws, q', rr'⟩ := h2 φ' s' H' x r l.2
  refine ⟨fun hi => ⟨vs, ws, q, q', ?_⟩, fun d hd => ?_⟩
  · rw [rr.length, rr'.length]
    rw [List.length_map, List.length_zip] at hi
    omega
  · obtain ⟨dx, dy, e1, e2, rfl⟩ := zip_get hd
    obtain ⟨v, hv, rv⟩ := rr.get e1
    obtain ⟨u, hu, ru⟩ := rr'.get e2
    refine ⟨⟨vs, ws, v, u, q, q', hv, hu⟩, fun w H'' y => ?_⟩
    obtain ⟨T, x0, y0, ew, eT, eH, z1, z2⟩ := y
    have z1 := z1 vs q
    have z2 := z2 ws q'
    rw [hv] at z1
    rw [hu] at z2
    cases z1
    cases z2
    exact zip_pair r ew eT eH rv ru
theorem it_enum {a : Addr} {lk : Lk} (h : SrcOk K φ n H false a ds lk) : ItOk K (Ite K a) φ n H (ds.zipIdx.map fun p => .tup [.int (p.2 : Nat), p.1]) lk := by
  intro φ' s' H' x r l i
  obtain ⟨vs, q, rr⟩ := h φ' s' H' x r l
  refine ⟨fun hi => ⟨vs, q, by rw [rr.length]; simpa using hi⟩, fun d hd => ?_⟩
  rw [List.getElem?_map, List.getElem?_zipIdx] at hd
  cases e : ds[i]? with
  | none => rw [e] at hd; cases hd
  | some d0 =>
    rw [e] at hd
    cases hd
    obtain ⟨v, hv, rv⟩ := rr.get e
    refine ⟨⟨vs, v, q, hv⟩, fun w H'' y => ?_⟩
    obtain ⟨T, x0, ew, eT, eH, z1⟩ := y
    have z1 := z1 vs q
    rw [hv] at z1
    cases z1
    have hi : RV K φ' s'.length H' (.int (i : Nat)) (.int ((0 + i : Nat) : Int)) := by rw [Nat.zero_add]; exact .int _
    exact zip_pair r ew eT eH hi rv
end

/-! ### readings of iterables -/
abbrev IR := Env → S → Option ((List D × Lk) × S)
def tI (K : Kq) (r : IR) : TI := fun σ H R => ∃ φ env s ds lk s', Rel K φ s H ∧ EnvR K φ s.length H σ env ∧ r env s = some ((ds, lk), s') ∧
  ∀ J H' φ', Ext φ s.length H φ' s'.length H' → Rel K φ' s' H' → lkOk lk s' = true → ItOk K J φ' s'.length H' ds lk → R J H'
section
variable {X : Cx} {e a b c tg : Expr} {pos : Pos} {ra rb rc re : ER}
theorem pi_imp {iter : Expr} {t t' : TI} (h : PI X tg iter t) (k : ∀ σ H Q, t' σ H Q → t σ H Q) : PI X tg iter t' := ⟨fun pins s σ H Q I hw => h.run pins s σ H Q I (k σ H Q hw)⟩
def iSeq (K : PySem.W.Frag) (tl : TE) : TI := fun σ H R => tl σ H fun x H1 => ∃ a, x = .ref a ∧ (((∃ xs, SqL K H1 a xs) ∧ R (Itl K a) H1) ∨ ((∃ xs, SqT K H1 a xs) ∧ R (Itt K a) H1))
theorem pi_seq {l : Expr} {tl : TE} (hl : PE X l tl) : PI X tg l (iSeq X.K tl) := by
  refine ⟨fun pins s σ H R I h => ?_⟩
  refine thn (hl.run pins s σ H _ I h) fun v s1 ⟨x, H1, I1, r1, q1⟩ => ?_
  obtain ⟨a, e, q1⟩ := q1
  subst e
  cases r1
  rcases q1 with ⟨⟨xs, hq⟩, q⟩ | ⟨⟨xs, hq⟩, q⟩
  · obtain ⟨its, rv, p, hz⟩ := I1.list hq
    refine wpAny_pyIter_list p.isList ?_
    refine ⟨s1.heap.objs.size, [s1.heap.objs.size], _, _, H1, rfl, I1.kept (t' := s1.toks) fun b o e => Heap.get?_push_of_some _ e, turn_list a _, ⟨_, Heap.get?_push_size _ rfl, rfl, rfl⟩, fun b hb => ?_, q⟩
    have e : b = s1.heap.objs.size := by simpa using hb
    subst e
    exact I1.fpOk (Nat.le_refl _) (I1.hok.fresh (Nat.le_refl _))
  · obtain ⟨its, rv, p, hz⟩ := I1.tuple hq
    refine wpAny_pyIter_tuple (show s1.heap.IsTuple a its.toArray from p) ?_
    refine ⟨s1.heap.objs.size, [s1.heap.objs.size], _, _, H1, rfl, I1.kept (t' := s1.toks) fun b o e => Heap.get?_push_of_some _ e, turn_tuple a _, ⟨_, Heap.get?_push_size _ rfl, rfl, rfl⟩, fun b hb => ?_, q⟩
    have e : b = s1.heap.objs.size := by simpa using hb
    subst e
    exact I1.fpOk (Nat.le_refl _) (I1.hok.fresh (Nat.le_refl _))
theorem si_seq (he : PE X e (tE (qx X τ) re)) : PI X tg e (tI (qx X τ) fun env s => bd (re env s) fun x s1 => (srcD s1 x).map fun p => ((p.2.1, p.2.2), s1)) := by
  refine pi_imp (pi_seq he) fun σ H R ⟨φ, env, s, ds, lk, s', r, e, h, q⟩ => ?_
  obtain ⟨x, s1, h1, h⟩ := bd_inv h
  cases hs : srcD s1 x with
  | none => rw [hs] at h; cases h
  | some p =>
    obtain ⟨tu, es, l⟩ := p
    rw [hs] at h
    cases h
    refine tE_go r e h1 fun v H1 φ1 x1 r1 e1 hv => ?_
    obtain ⟨a, ea, so, lo⟩ := src_ok r1 hv hs
    refine ⟨a, ea, ?_⟩
    cases tu with
    | true =>
      obtain ⟨vs, z, _⟩ := so φ1 _ H1 Ext.refl r1 lo
      exact .inr ⟨⟨vs, z⟩, q _ _ _ x1 r1 lo (it_tup so)⟩
    | false =>
      obtain ⟨vs, z, _⟩ := so φ1 _ H1 Ext.refl r1 lo
      exact .inl ⟨⟨vs, z⟩, q _ _ _ x1 r1 lo (it_list so)⟩
theorem si_rng {p : Pos} (hg : Gl X "range") (hm : X.mg "range" = none) (ha : PE X a (tE (qx X τ) ra)) (hs : starEach [a] X.env = [(false, eval a X.env)]) :
    PI X tg (.Call (.Name "range" p) [a] [] pos) (tI (qx X τ) fun env s => bd (ra env s) fun x s1 => match x with
      | .int n => if -(2 ^ 62) ≤ n ∧ n < 2 ^ 62 then some (((List.range n.toNat).map fun i => .int (i : Nat), []), s1) else none
      | _ => none) := by
  refine pi_imp (pi_range1 hg hm (sa_cons ha sa_nil hs) hs) fun σ H R ⟨φ, env, s, ds, lk, s', r, e, h, q⟩ => ?_
  obtain ⟨x, s1, h1, h⟩ := bd_inv h
  cases x with
  | int n =>
    by_cases hn : -(2 ^ 62) ≤ n ∧ n < 2 ^ 62
    · have h : (if -(2 ^ 62) ≤ n ∧ n < 2 ^ 62 then some (((List.range n.toNat).map fun i => D.int (i : Nat), ([] : Lk)), s1) else none) = some ((ds, lk), s') := h
      rw [if_pos hn] at h
      cases h
      have h2 : (bd (ra env s) fun x s1 => bd (some ([], s1)) fun xs s2 => some (x :: xs, s2)) = some ([D.int n], s') := by rw [h1]; rfl
      refine tA_go r e h2 fun vs H1 φ1 x1 r1 e1 hv => ?_
      cases hv with
      | cons hv hr =>
        cases hv
        cases hr
        refine ⟨n, rfl, hn.1, hn.2, q _ _ _ x1 r1 rfl ?_⟩
        have z : ItOk (qx X τ) (Itr 0 n.toNat) φ1 s'.length H1 ((List.range n.toNat).map fun i => .int ((0 : Int) + (i : Nat))) [] := it_range
        simpa using z
    · have h : (if -(2 ^ 62) ≤ n ∧ n < 2 ^ 62 then some (((List.range n.toNat).map fun i => D.int (i : Nat), ([] : Lk)), s1) else none) = some ((ds, lk), s') := h
      rw [if_neg hn] at h
      cases h
  | _ => cases h
theorem si_rng2 {p : Pos} (hg : Gl X "range") (hm : X.mg "range" = none) (ha : PE X a (tE (qx X τ) ra)) (hb : PE X b (tE (qx X τ) rb)) (hs : starEach [a, b] X.env = [(false, eval a X.env), (false, eval b X.env)]) (hs2 : starEach [b] X.env = [(false, eval b X.env)]) :
    PI X tg (.Call (.Name "range" p) [a, b] [] pos) (tI (qx X τ) fun env s => bd (ra env s) fun x s1 => bd (rb env s1) fun y s2 => match x, y with
      | .int i, .int j => if -(2 ^ 62) ≤ i ∧ i < 2 ^ 62 ∧ -(2 ^ 62) ≤ j ∧ j < 2 ^ 62 then some (((List.range (j - i).toNat).map fun k => .int (i + (k : Nat)), []), s2) else none
      | _, _ => none) := by
  refine pi_imp (pi_range2 hg hm (sa_cons ha (sa_cons hb sa_nil hs2) (by rw [hs, hs2])) hs hs2) fun σ H R ⟨φ, env, s, ds, lk, s', r, e, h, q⟩ => ?_
  obtain ⟨x, s1, h1, h⟩ := bd_inv h
  obtain ⟨y, s2, h2, h⟩ := bd_inv h
  cases x with
  | int i =>
    cases y with
    | int j =>
      have h : (if -(2 ^ 62) ≤ i ∧ i < 2 ^ 62 ∧ -(2 ^ 62) ≤ j ∧ j < 2 ^ 62 then some (((List.range (j - i).toNat).map fun k => D.int (i + (k : Nat)), ([] : Lk)), s2) else none) = some ((ds, lk), s') := h
      by_cases hn : -(2 ^ 62) ≤ i ∧ i < 2 ^ 62 ∧ -(2 ^ 62) ≤ j ∧ j < 2 ^ 62
      · rw [if_pos hn] at h
        cases h
        have h3 : (bd (ra env s) fun x s1 => bd (bd (rb env s1) fun x s1 => bd (some ([], s1)) fun xs s2 => some (x :: xs, s2)) fun xs s2 => some (x :: xs, s2)) = some ([D.int i, D.int j], s') := by rw [h1, bd_some, h2]; rfl
        refine tA_go r e h3 fun vs H1 φ1 x1 r1 e1 hv => ?_
        cases hv with
        | cons hv hr =>
          cases hv
          cases hr with
          | cons hv hr =>
            cases hv
            cases hr
            exact ⟨i, j, rfl, hn, q _ _ _ x1 r1 rfl it_range⟩
      · rw [if_neg hn] at h
        cases h
    | _ => cases h
  | _ => cases h
theorem si_zip {p tpos : Pos} {elts : List Expr} {kk : Nat} (hg : Gl X "zip") (hm : X.mg "zip" = none) (ha : PE X a (tE (qx X τ) ra)) (hb : PE X b (tE (qx X τ) rb))
    (hs : starEach [a, b] X.env = (false, eval a X.env) :: starEach [b] X.env) (hs2 : starEach [b] X.env = [(false, eval b X.env)]) (hpl : (backTo pos (starEach [b] X.env)).any (·.1) = false) :
    PI X (.Tuple elts kk tpos) (.Call (.Name "zip" p) [a, b] [] pos) (tI (qx X τ) fun env s => bd (ra env s) fun x s1 => bd (rb env s1) fun y s2 => match srcD s2 x, srcD s2 y with
    | some (t1, xs, l1), some (t2, ys, l2) => if t1 = t2 then some (((xs.zip ys).map fun p => .tup [p.1, p.2], l1 ++ l2), s2) else none
    | _, _ => none) := by
  refine pi_imp (RZ.pi_zipA hg hm (sa_cons ha (sa_cons hb sa_nil hs2) hs) hs hpl) fun σ H R ⟨φ, env, s, ds, lk, s', r, e, h, q⟩ => ?_
  obtain ⟨x, s1, h1, h⟩ := bd_inv h
  obtain ⟨y, s2, h2, h⟩ := bd_inv h
  have h3 : (bd (ra env s) fun x s1 => bd (bd (rb env s1) fun x s1 => bd (some ([], s1)) fun xs s2 => some (x :: xs, s2)) fun xs s2 => some (x :: xs, s2)) = some ([x, y], s2) := by rw [h1, bd_some, h2]; rfl
  cases hx : srcD s2 x with
  | none => rw [hx] at h; cases h
  | some px =>
    obtain ⟨t1, xs, l1⟩ := px
    cases hy : srcD s2 y with
    | none => rw [hx, hy] at h; cases h
    | some py =>
      obtain ⟨t2, ys, l2⟩ := py
      rw [hx, hy] at h
      have h : (if t1 = t2 then some (((xs.zip ys).map fun p => D.tup [p.1, p.2], l1 ++ l2), s2) else none) = some ((ds, lk), s') := h
      by_cases ht : t1 = t2
      · rw [if_pos ht] at h
        cases h
        subst ht
        refine tA_go r e h3 fun vs H1 φ1 x1 r1 e1 hv => ?_
        obtain ⟨v, w, rfl, rv, rw'⟩ := rvs2 hv
        obtain ⟨a', ea, so, lo⟩ := src_ok r1 rv hx
        obtain ⟨b', eb, so', lo'⟩ := src_ok r1 rw' hy
        subst ea
        subst eb
        have lo2 : lkOk (l1 ++ l2) s' = true := by rw [lkOk_app, lo, lo']; rfl
        obtain ⟨vs1, z1, _⟩ := so φ1 _ H1 Ext.refl r1 lo
        obtain ⟨vs2, z2, _⟩ := so' φ1 _ H1 Ext.refl r1 lo'
        refine ⟨a', b', vs1, vs2, rfl, ?_⟩
        cases t1 with
        | true => exact .inr ⟨z1, z2, q _ _ _ x1 r1 lo2 (it_zipT so so')⟩
        | false => exact .inl ⟨z1, z2, q _ _ _ x1 r1 lo2 (it_zip so so')⟩
      · rw [if_neg ht] at h
        cases h
theorem si_enum {p tpos : Pos} {elts : List Expr} {kk : Nat} (hg : Gl X "enumerate") (hm : X.mg "enumerate" = none) (ha : PE X a (tE (qx X τ) ra)) (hs : starEach [a] X.env = [(false, eval a X.env)]) :
    PI X (.Tuple elts kk tpos) (.Call (.Name "enumerate" p) [a] [] pos) (tI (qx X τ) fun env s => bd (ra env s) fun x s1 => match srcD s1 x with
    | some (false, ds, lk) => some ((ds.zipIdx.map fun p => .tup [.int (p.2 : Nat), p.1], lk), s1)
    | _ => none) := by
  refine pi_imp (pi_enum hg hm (sa_cons ha sa_nil hs) hs) fun σ H R ⟨φ, env, s, ds, lk, s', r, e, h, q⟩ => ?_
  obtain ⟨x, s1, h1, h⟩ := bd_inv h
  have h3 : (bd (ra env s) fun x s1 => bd (some ([], s1)) fun xs s2 => some (x :: xs, s2)) = some ([x], s1) := by rw [h1]; rfl
  cases hx : srcD s1 x with
  | none => rw [hx] at h; cases h
  | some px =>
    obtain ⟨t1, xs, l1⟩ := px
    rw [hx] at h
    cases t1 with
    | true => cases h
    | false =>
      cases h
      refine tA_go r e h3 fun vs H1 φ1 x1 r1 e1 hv => ?_
      obtain ⟨v, rfl, rv⟩ := rvs1 hv
      obtain ⟨a', ea, so, lo⟩ := src_ok r1 rv hx
      subst ea
      obtain ⟨vs1, z1, _⟩ := so φ1 _ H1 Ext.refl r1 lo
      exact ⟨a', vs1, rfl, z1, q _ _ _ x1 r1 lo (it_enum so)⟩
end
end Kp

/-! Kp, part I: targets; comprehensions. Own work. -/
namespace Kp
open PySem PySem.Spec PyProof.Rows L2

/-! ### targets -/
mutual
def slots : Tg → List Nat
  | .nm i => [i]
  | .tp _ ts => slotss ts
def slotss : List Tg → List Nat
  | [] => []
  | t :: ts => slots t ++ slotss ts
end
/-- alike but at these places -/
def Near (is : List Nat) (σ σ' : L2.St) : Prop := σ'.length = σ.length ∧ ∀ i, i ∉ is → σ'[i]? = σ[i]?
theorem Near.refl {is : List Nat} {σ : L2.St} : Near is σ σ := ⟨rfl, fun _ _ => rfl⟩
theorem Near.trans {is js : List Nat} {σ σ1 σ2 : L2.St} (a : Near is σ σ1) (b : Near js σ1 σ2) : Near (is ++ js) σ σ2 :=
  ⟨b.1.trans a.1, fun i hi => by
    rw [List.mem_append, not_or] at hi
    rw [b.2 i hi.2, a.2 i hi.1]⟩
theorem Near.set {σ : L2.St} {i : Nat} {v : Option V} : Near [i] σ (σ.set i v) :=
  ⟨List.length_set, fun j hj => List.getElem?_set_ne (fun e => hj (by simp [e]))⟩
theorem wipe_in {σ : L2.St} {i : Nat} : ∀ {vs : List Nat}, i ∈ vs → i < σ.length → (wipe σ vs)[i]? = some none
  | v :: vs, h, hl => by
    unfold wipe
    by_cases e : v = i
    · subst e
      exact List.getElem?_set_self (by rw [wipe_length]; exact hl)
    · rw [List.getElem?_set_ne e]
      rcases List.mem_cons.mp h with z | z
      · exact absurd z.symm e
      · exact wipe_in z hl
theorem Near.wipe {is vs : List Nat} {σ σ' : L2.St} (a : Near is σ σ') (h : ∀ i ∈ is, i ∈ vs) : L2.wipe σ' vs = L2.wipe σ vs := by
  refine List.ext_getElem? fun i => ?_
  by_cases hi : i ∈ vs
  · by_cases hl : i < σ.length
    · rw [wipe_in hi hl, wipe_in hi (by rw [a.1]; exact hl)]
    · rw [List.getElem?_eq_none (by rw [wipe_length, a.1]; omega), List.getElem?_eq_none (by rw [wipe_length]; omega)]
  · rw [wipe_out hi, wipe_out hi, a.2 i fun z => hi (h i z)]
theorem wipe_wipe {σ : L2.St} {vs : List Nat} : L2.wipe (L2.wipe σ vs) vs = L2.wipe σ vs := by
  refine List.ext_getElem? fun i => ?_
  by_cases hi : i ∈ vs
  · by_cases hl : i < σ.length
    · rw [wipe_in hi (by rw [wipe_length]; exact hl), wipe_in hi hl]
    · rw [List.getElem?_eq_none (by rw [wipe_length, wipe_length]; omega), List.getElem?_eq_none (by rw [wipe_length]; omega)]
  · rw [wipe_out hi]
def tG (K : Kq) (t : Tg) : TG := fun v σ H Q => ∃ φ env s d env', Rel K φ s H ∧ EnvR K φ s.length H σ env ∧ RV K φ s.length H v d ∧ asgT t d env = some env' ∧ ∀ σ', EnvR K φ s.length H σ' env' → Near (slots t) σ σ' → Q σ' H
def tGs (K : Kq) (ts : List Tg) : TGs := fun vs σ H Q => ∃ φ env s ds env', Rel K φ s H ∧ EnvR K φ s.length H σ env ∧ RVs K φ s.length H vs ds ∧ asgTs ts ds env = some env' ∧ ∀ σ', EnvR K φ s.length H σ' env' → Near (slotss ts) σ σ' → Q σ' H
section
variable {X : Cx} {pos : Pos}
theorem pg_imp {e : Expr} {t t' : TG} (h : PG X e t) (k : ∀ v σ H Q, t' v σ H Q → t v σ H Q) : PG X e t' := ⟨fun pins s σ H v u Q I r hw => h.run pins s σ H v u Q I r (k v σ H Q hw)⟩
theorem pgs_imp {es : List Expr} {t t' : TGs} (h : PGs X es t) (k : ∀ v σ H Q, t' v σ H Q → t v σ H Q) : PGs X es t' := ⟨fun pins s σ H v u Q I r hw => h.run pins s σ H v u Q I r (k v σ H Q hw)⟩
theorem sg_name {i : Nat} {x : Str} (hN : X.N.Nodup) (hi : X.N[i]? = some x) (hx : Loc X.env.scope x) (hf : X.fn x = true ∨ X.env.scope.names.lookup x = some .local) : PG X (.Name x pos) (tG (qx X τ) (.nm i)) :=
  pg_imp (pg_name hN hi hx hf) fun v σ H Q ⟨φ, env, s, d, env', r, e, hv, ha, q⟩ => by
    cases ha
    exact q _ (e.set hv i) Near.set
theorem sgs_nil : PGs X [] (tGs (qx X τ) []) := pgs_imp pgs_nil fun v σ H Q ⟨φ, env, s, ds, env', r, e, hv, ha, q⟩ => by
  cases hv with
  | nil => cases ha; exact ⟨rfl, q _ e Near.refl⟩
  | cons _ _ => cases ha
theorem sgs_cons {e : Expr} {es : List Expr} {t : Tg} {ts : List Tg} (h1 : PG X e (tG (qx X τ) t)) (h2 : PGs X es (tGs (qx X τ) ts)) (hs : (assignEach (e :: es) X.env).map (·.2) = assign e X.env :: (assignEach es X.env).map (·.2)) : PGs X (e :: es) (tGs (qx X τ) (t :: ts)) :=
  pgs_imp (pgs_cons h1 h2 hs) fun v σ H Q ⟨φ, env, s, ds, env', r, e, hv, ha, q⟩ => by
    cases ds with
    | nil => cases ha
    | cons d ds =>
      obtain ⟨v0, vs0, rfl, hv, hr⟩ : ∃ v0 vs0, v = v0 :: vs0 ∧ RV (qx X τ) φ s.length H v0 d ∧ RVs (qx X τ) φ s.length H vs0 ds := by
        cases hv with
        | cons h1 h2 => exact ⟨_, _, rfl, h1, h2⟩
      have ha : (asgT t d env).bind (asgTs ts ds) = some env' := ha
      cases h3 : asgT t d env with
      | none => rw [h3] at ha; cases ha
      | some env1 =>
        rw [h3] at ha
        refine ⟨_, _, rfl, φ, env, s, d, env1, r, e, hv, h3, fun σ' e' n' => ?_⟩
        exact ⟨φ, env1, s, ds, env', r, e', hr, ha, fun σ2 e2 n2 => q σ2 e2 (n'.trans n2)⟩
theorem sg_tup {es : List Expr} {k : Nat} {ts : List Tg} {n : Nat} (hc : X.calm = true) (h : PGs X es (tGs (qx X τ) ts)) (hn : (assignEach es X.env).length = n) (hst : (assignEach es X.env).findIdx? (·.1) = none) : PG X (.Tuple es k pos) (tG (qx X τ) (.tp n ts)) :=
  pg_imp (pg_tup hc h hn hst) fun v σ H Q ⟨φ, env, s, d, env', r, e, hv, ha, q⟩ => by
    cases d with
    | tup ds =>
      obtain ⟨a, vs, rfl, q0, rr⟩ : ∃ a vs, v = .ref a ∧ SqT (qx X τ) H a vs ∧ RVs (qx X τ) φ s.length H vs ds := by
        cases hv with
        | tup h1 h2 => exact ⟨_, _, rfl, h1, h2⟩
      have ha : (if ds.length = n then asgTs ts ds env else none) = some env' := ha
      by_cases hl : ds.length = n
      · rw [if_pos hl] at ha
        exact ⟨a, vs, rfl, q0, by rw [rr.length]; exact hl, φ, env, s, ds, env', r, e, rr, ha, q⟩
      · rw [if_neg hl] at ha
        cases ha
    | _ => cases ha
end

/-! ### tests of a clause -/
def tQ (K : Kq) (r : Env → S → Option (Bool × S)) : TT := fun σ H Q => ∃ φ env s b s', Rel K φ s H ∧ EnvR K φ s.length H σ env ∧ r env s = some (b, s') ∧ PostT K φ s.length H b s' Q
theorem pts_imp {X : Cx} {es : List Expr} {t t' : TT} (h : PTs X es t) (k : ∀ σ H Q, t' σ H Q → t σ H Q) : PTs X es t' := ⟨fun pins s σ H Q I hw => h.run pins s σ H Q I (k σ H Q hw)⟩
theorem sq_nil {X : Cx} : PTs X [] (tQ (qx X τ) fun _ s => some (true, s)) := pts_imp pts_nil fun σ H Q ⟨φ, env, s, b, s', r, e, h, q⟩ => by
  cases h
  exact q H φ Ext.refl r
theorem sq_one {X : Cx} {c : Expr} {rc : ER} (h : PT X c (tT (qx X τ) rc)) : PTs X [c] (tQ (qx X τ) fun env s => bd (rc env s) fun x s1 => match truD s1 x with
    | some true => some (true, s1)
    | some false => some (false, s1)
    | none => none) := pts_imp (pts_one h) fun σ H Q ⟨φ, env, s, b, s', r, e, h, q⟩ => by
  obtain ⟨x, s1, h1, h⟩ := bd_inv h
  cases hb : truD s1 x with
  | none => rw [hb] at h; cases h
  | some k =>
    rw [hb] at h
    cases k with
    | true => cases h; exact ⟨φ, env, s, x, _, true, r, e, h1, hb, q⟩
    | false => cases h; exact ⟨φ, env, s, x, _, false, r, e, h1, hb, q⟩

/-! ### a list that is being filled -/
def moreF (φ : Ph) (p : Addr) : Ph := ⟨φ.f, fun a => φ.F a ∨ a = p⟩
section
variable {K : Kq} {φ φ1 : Ph} {n n1 : Nat} {H H1 : Hp} {s s1 : S} {d : D} {ds : List D} {p : Addr} {o : HO}
theorem Ext.laidF (hp : H p = none) : Ext φ n H (moreF φ p) n (upd H p o) :=
  ⟨Nat.le_refl _, fun _ _ => rfl, fun i h1 h2 => absurd h1 (by omega), fun b u hb _ _ => by rw [upd_ne (ne_of_none hb hp)]; exact hb, fun b ps hb => ⟨ps, by rw [upd_ne (ne_of_none hb hp)]; exact hb⟩, fun _ h => .inl h, fun a h => h.imp id fun e => by rw [e]; exact hp⟩
theorem Rel.laidF (r : Rel K φ s H) (hp : H p = none) (hm : Mut (some o)) : Rel K (moreF φ p) s (upd H p o) where
  inj := r.inj
  cell := fun i c e => by
    have h := r.cell i c e
    obtain ⟨u, hu⟩ := mut_some (r.cm i (List.getElem?_eq_some_iff.mp e).1)
    exact h.mono r.cm (Ext.laidF hp) (upd_ne (ne_of_none hu hp))
  fo := fun a h => by
    rcases h with h | h
    · exact ⟨mut_new hp (r.fo a h).1, (r.fo a h).2⟩
    · subst h
      refine ⟨by rw [upd_same]; exact hm, fun i hi e => ?_⟩
      have z := r.cm i hi
      have e : φ i = a := e
      rw [e, hp] at z
      exact z
  tab := fun P h => tabG_obj (r.tab P h) hp
theorem Ext.updN (x : Ext φ n H φ1 n1 H1) (hp : H p = none) : Ext φ n H φ1 n1 (upd H1 p o) :=
  ⟨x.le, x.old, x.new, fun a u hu ht hn => by rw [upd_ne (ne_of_none hu hp)]; exact x.keep a u hu ht hn, fun a ps hu => let ⟨ps', h⟩ := x.tb a ps hu; ⟨ps', by rw [upd_ne (ne_of_none hu hp)]; exact h⟩, x.fk, x.ff⟩
theorem Ext.at (x : Ext φ n H φ1 n1 H1) (ho : NTb o) (hm : ∀ i, i < n → φ i ≠ p) (h : H p = some o) : H1 p = some o := x.keep p o h ho hm
mutual
theorem RV.toCell {F : Addr → Prop} (hF : ∀ a, F a → φ.F a) (hp : φ.F p) (hn : ¬ F p) : ∀ (d : D) {v : V}, RV K φ n H v d → RV K (addC (lessF φ F) n p) (n + 1) H v d
  | .non, _, h => by cases h; exact .non
  | .bl b, _, h => by cases h; exact .bl b
  | .int i, _, h => by cases h; exact .int i
  | .str y, _, h => by cases h with
    | str _ q => exact .str y q
  | .ref i, _, h => by cases h with
    | ref _ q =>
      have e : (addC (lessF φ F) n p) i = φ i := addC_ne (by omega)
      rw [← e]
      exact RV.ref i (by omega)
  | .tup ds, _, h => by cases h with
    | tup q r => exact .tup q (RVs.toCell hF hp hn ds r)
  | .lst ds, _, h => by cases h with
    | lst q nc nf r =>
      refine .lst q (fun i hi e => ?_) (fun e => nf (hF _ e)) (RVs.toCell hF hp hn ds r)
      by_cases h1 : i = n
      · subst h1
        rw [addC_eq] at e
        exact nf (by rw [← e]; exact hp)
      · rw [addC_ne h1] at e
        exact nc i (by omega) e
  | .rol ds, _, h => by cases h with
    | rol q r => exact .rol q (RVs.toCell hF hp hn ds r)
theorem RVs.toCell {F : Addr → Prop} (hF : ∀ a, F a → φ.F a) (hp : φ.F p) (hn : ¬ F p) : ∀ (ds : List D) {vs : List V}, RVs K φ n H vs ds → RVs K (addC (lessF φ F) n p) (n + 1) H vs ds
  | [], _, h => by cases h; exact .nil
  | d :: ds, _, h => by cases h with
    | cons h r => exact .cons (RV.toCell hF hp hn d h) (RVs.toCell hF hp hn ds r)
end
theorem CellR.toCell {F : Addr → Prop} (hF : ∀ a, F a → φ.F a) (hp : φ.F p) (hn : ¬ F p) {a : Addr} {c : C} (h : CellR K φ n H a c) : CellR K (addC (lessF φ F) n p) (n + 1) H a c := by
  cases c with
  | lst es =>
    obtain ⟨ws, q1, q2⟩ := h
    exact ⟨ws, q1, q2.toCell hF hp hn⟩
  | dct kvs =>
    rcases h with ⟨xs, h1, h2⟩ | ⟨xs, h1, h2, h3⟩
    · exact .inl ⟨xs, h1, L2.Paired.mapP h2 fun p q z => ⟨z.1.toCell hF hp hn, z.2.toCell hF hp hn⟩⟩
    · exact .inr ⟨xs, h1, L2.Paired.mapP h2 fun p q z => ⟨z.1, z.2.1, z.2.2.1.toCell hF hp hn, z.2.2.2.toCell hF hp hn⟩, h3⟩
  | ins _ _ => exact h.elim
theorem Rel.toCell {F : Addr → Prop} {vs : List V} (r : Rel K φ s H) (hF : ∀ a, F a → φ.F a) (hp : φ.F p) (hn : ¬ F p) (e : H p = some (.lst vs)) (hv : RVs K φ s.length H vs ds) : Rel K (addC (lessF φ F) s.length p) (s ++ [.lst ds]) H where
  inj := fun i j hi hj e => by
    rw [List.length_append] at hi hj
    simp only [List.length_cons, List.length_nil] at hi hj
    by_cases h1 : i = s.length
    · by_cases h2 : j = s.length
      · omega
      · rw [h1, addC_eq, addC_ne h2] at e
        exact absurd e.symm ((r.fo p hp).2 j (by omega))
    · by_cases h2 : j = s.length
      · rw [h2, addC_eq, addC_ne h1] at e
        exact absurd e ((r.fo p hp).2 i (by omega))
      · rw [addC_ne h1, addC_ne h2] at e
        exact r.inj i j (by omega) (by omega) e
  cell := fun i c q => by
    rw [List.length_append]
    by_cases h1 : i < s.length
    · rw [List.getElem?_append_left h1] at q
      have h := r.cell i c q
      rw [addC_ne (by omega)]
      exact h.toCell hF hp hn
    · have h2 : i = s.length := by
        have := (List.getElem?_eq_some_iff.mp q).1
        rw [List.length_append] at this
        simp at this
        omega
      subst h2
      rw [List.getElem?_append_right (Nat.le_refl _)] at q
      simp at q
      subst q
      exact ⟨vs, by rw [addC_eq]; exact e, hv.toCell hF hp hn⟩
  fo := fun a h => ⟨(r.fo a (hF a h)).1, fun i hi e => by
    rw [List.length_append] at hi
    simp only [List.length_cons, List.length_nil] at hi
    by_cases h1 : i = s.length
    · subst h1
      rw [addC_eq] at e
      subst e
      exact hn h
    · rw [addC_ne h1] at e
      exact (r.fo a (hF a h)).2 i (by omega) e⟩
  tab := r.tab
theorem newL_len {mu : Bool} {s' : S} (h : newL mu ds s = some (d, s')) : ds.length ≤ lim := by
  unfold newL at h
  by_cases hl : ds.length ≤ lim
  · exact hl
  · rw [if_neg hl] at h; cases h
/-- the list is done: it is told to the reader -/
theorem fill_done {mu : Bool} {s' : S} {acc : List V} {Q : VK} {φ0 : Ph} {n0 : Nat} {H0 : Hp} (x0 : Ext φ0 n0 H0 φ1 s1.length H1) (r1 : Rel K φ1 s1 H1) (hp : H1 p = none)
    (x : Ext φ1 s1.length H1 φ s.length H) (r : Rel K φ s H) (hf : φ.F p) (e : H p = some (.lst acc)) (hv : RVs K φ s.length H acc ds) (h : newL mu ds s = some (d, s')) (q : PostE K φ0 n0 H0 d s' Q) : Q (.ref p) H := by
  have hn : ¬ φ1.F p := fun z => by
    have y := (r1.fo p z).1
    rw [hp] at y
    exact y
  have hF : ∀ a, φ1.F a → φ.F a := x.fk
  unfold newL at h
  rw [if_pos (newL_len h)] at h
  cases mu with
  | true =>
    simp only [if_true, Option.some.injEq, Prod.mk.injEq] at h
    obtain ⟨rfl, rfl⟩ := h
    have r2 := r.toCell hF hf hn e hv
    have x2 : Ext φ1 s1.length H1 (addC (lessF φ φ1.F) s.length p) (s ++ [C.lst ds]).length H := by
      rw [List.length_append]
      refine ⟨Nat.le_trans x.le (Nat.le_succ _), fun i hi => ?_, fun i h1 h2 => ?_, x.keep, x.tb, fun _ z => z, fun _ z => .inl z⟩
      · have := x.le
        rw [addC_ne (by omega)]
        exact x.old i hi
      · by_cases hi : i = s.length
        · subst hi; rw [addC_eq]; exact hp
        · rw [addC_ne hi]; exact x.new i h1 (by simp at h2; omega)
    refine q _ _ _ (x0.trans r1.cm ?_) r2 ?_
    · exact x2
    · have z : RV K (addC (lessF φ φ1.F) s.length p) (s ++ [C.lst ds]).length H (.ref ((addC (lessF φ φ1.F) s.length p) s.length)) (.ref s.length) := .ref _ (by simp)
      rw [addC_eq] at z
      exact z
  | false =>
    simp only [Bool.false_eq_true, if_false, Option.some.injEq, Prod.mk.injEq] at h
    obtain ⟨rfl, rfl⟩ := h
    refine q _ _ (lessF φ φ1.F) (x0.trans r1.cm ?_) (r.less hF) (.lst e (r.fo p hf).2 hn (hv.less hF))
    exact ⟨x.le, x.old, x.new, x.keep, x.tb, fun _ z => z, fun _ z => .inl z⟩
end
end Kp

/-! Kp, part J: comprehensions; calls. Own work. -/
namespace Kp
open PySem PySem.Spec PyProof.Rows L2

def stepL (t : Tg) (own : List Nat) (rt : Env → S → Option (Bool × S)) (re : ER) (env : Env) : D → S → Option (Option D × S) := fun d s' => match asgT t d (wipeD env own) with
  | some env' => bd (rt env' s') fun b s2 => if b then bd (re env' s2) fun x s3 => some (some x, s3) else some (none, s2)
  | none => none
theorem lc_read {K : Kq} {t : Tg} {ri : IR} {rt : Env → S → Option (Bool × S)} {re : ER} {vs : List Nat} {mu : Bool} (hsl : ∀ i ∈ slots t, i ∈ vs) {σ : L2.St} {H : Hp} {Q : VK} {φ : Ph} {env : Env} {s s' : S} {d : D}
    (rel : Rel K φ s H) (e : EnvR K φ s.length H σ env) (h : (bd (ri env s) fun p s1 => bd (compL (stepL t vs rt re env) p.2 p.1 s1) (newL mu)) = some (d, s')) (q : PostE K φ s.length H d s' Q) :
    tLc (tI K ri) (tG K t) (tQ K rt) (tE K re) vs σ H Q := by
  obtain ⟨p, s1, h1, h⟩ := bd_inv h
  obtain ⟨ds, lk⟩ := p
  obtain ⟨rs, s2, h2, hn⟩ := bd_inv h
  have hlen : rs.length ≤ lim := newL_len hn
  refine ⟨φ, env, s, ds, lk, s1, rel, e, h1, fun J H1 φ1 x1 r1 l1 it D hD => ?_⟩
  have e1 := e.mono rel.cm x1
  refine ⟨fun i m H' => m = ds.length - i ∧ i ≤ ds.length ∧ ∃ (φ' : Ph) (s' : S) (acc : List V) (accD rest : List Kp.D), Ext φ1 s1.length H1 φ' s'.length H' ∧ φ'.F D ∧ Rel K φ' s' H' ∧ H' D = some (.lst acc) ∧ RVs K φ' s'.length H' acc accD ∧ lkOk lk s' = true ∧
    compL (stepL t vs rt re env) lk (ds.drop i) s' = some (rest, s2) ∧ accD ++ rest = rs, ⟨ds.length, by simp, Nat.zero_le _, moreF φ1 D, s1, [], [], rs, Ext.laidF hD, .inr rfl, r1.laidF hD trivial, upd_same, .nil, l1, h2, rfl⟩, ?_⟩
  rintro i m H' ⟨rfl, hi, φ', s', acc, accD, rest, x, hF, r, hacc, racc, hlk, hc, hsum⟩
  by_cases hlt : i < ds.length
  · have hdi : ds[i]? = some ds[i] := List.getElem?_eq_getElem hlt
    obtain ⟨hgo, hy⟩ := (it φ' s' H' x r hlk i).2 _ hdi
    refine .inr ⟨hgo, fun H' => i + 1 ≤ ds.length ∧ ∃ (φ' : Ph) (s' : S) (acc : List V) (accD rest : List Kp.D), Ext φ1 s1.length H1 φ' s'.length H' ∧ φ'.F D ∧ Rel K φ' s' H' ∧ H' D = some (.lst acc) ∧ RVs K φ' s'.length H' acc accD ∧ lkOk lk s' = true ∧
      compL (stepL t vs rt re env) lk (ds.drop (i + 1)) s' = some (rest, s2) ∧ accD ++ rest = rs, fun H' p => ⟨_, by omega, rfl, p⟩, fun v H2 y => ?_⟩
    obtain ⟨φ2, x2, r2, hv⟩ := hy v H2 y
    rw [List.drop_eq_getElem_cons hlt] at hc
    obtain ⟨o, s3, hst, hc⟩ := bd_inv hc
    by_cases hl3 : lkOk lk s3 = true
    · rw [if_pos hl3] at hc
      obtain ⟨rest', s4, hc', hc⟩ := bd_inv hc
      cases hc
      unfold stepL at hst
      cases ha : asgT t ds[i] (wipeD env vs) with
      | none => rw [ha] at hst; cases hst
      | some env' =>
        rw [ha] at hst
        obtain ⟨b, s5, hrt, hst⟩ := bd_inv hst
        have e2 : EnvR K φ2 s'.length H2 (wipe σ vs) (wipeD env vs) := ((e1.mono r1.cm x).mono r.cm x2).wipe vs
        refine ⟨φ2, _, s', _, env', r2, e2, hv, ha, fun σ2 e3 near => ⟨by rw [near.wipe hsl, wipe_wipe], ?_⟩⟩
        refine ⟨φ2, env', s', b, s5, r2, e3, hrt, fun H3 φ3 x3 r3 => ?_⟩
        have f2 : φ2.F D := x2.fk D hF
        have f3 : φ3.F D := x3.fk D f2
        have a2 : H2 D = some (.lst acc) := x2.keep D _ hacc ntb_lst (r.fo D hF).2
        have a3 : H3 D = some (.lst acc) := x3.keep D _ a2 ntb_lst (r2.fo D f2).2
        have x123 : Ext φ1 s1.length H1 φ3 s5.length H3 := (x.trans r.cm x2).trans r2.cm x3
        have racc3 : RVs K φ3 s5.length H3 acc accD := (racc.mono r.cm x2).mono r2.cm x3
        cases b with
        | false =>
          refine iteF ?_
          cases hst
          exact ⟨hlt, φ3, _, acc, accD, rest', x123, f3, r3, a3, racc3, hl3, hc', by simpa using hsum⟩
        | true =>
          refine iteT ?_
          obtain ⟨dx, s6, hre, hst⟩ := bd_inv hst
          cases hst
          refine ⟨φ3, env', s5, dx, _, r3, e3.mono r2.cm x3, hre, fun w H4 φ4 x4 r4 hw => ?_⟩
          have f4 : φ4.F D := x4.fk D f3
          have a4 : H4 D = some (.lst acc) := x4.keep D _ a3 ntb_lst (r3.fo D f3).2
          have m4 := (r4.fo D f4).1
          have racc4 := (racc3.mono r3.cm x4).append (.cons hw .nil)
          refine ⟨acc, a4, ?_, hlt, φ4, _, acc ++ [w], accD ++ [dx], rest', (x123.trans r3.cm x4).updN hD, f4, r4.updF f4 trivial, upd_same, racc4.updF m4 f4, hl3, hc', by simpa using hsum⟩
          rw [racc.length]
          have z : accD.length < rs.length := by rw [← hsum]; simp
          have z2 := lim_le
          omega
    · rw [if_neg hl3] at hc
      cases hc
  · have hd0 : ds.drop i = [] := List.drop_eq_nil_of_le (by omega)
    rw [hd0] at hc
    cases hc
    rw [List.append_nil] at hsum
    subst hsum
    exact .inl ⟨(it φ' _ H' x r hlk i).1 (by omega), fill_done x1 r1 hD x r hF hacc racc hn q⟩
section
variable {X : Cx} {pos : Pos}
theorem se_lc {elt tg iter : Expr} {ifs : List Expr} {scope : Scope} {own : List (Str × Nat)} {t : Tg} {ri : IR} {rt : Env → S → Option (Bool × S)} {re : ER} {mu : Bool} (hc : X.calm = true) (hN : X.N.Nodup) (hi : PI X tg iter (tI (qx X τ) ri)) (ok : BlkOk X.N X.env.scope scope own)
    (hg : ∀ (s : Shared) (H : Hp) (C : Addr) (cl : List (Str × Addr)) (fp : List Addr), PG (X.blk s H scope (compEnvC scope cl C X.env) fp) tg (tG (qx X τ) t)) (ht : ∀ (s : Shared) (H : Hp) (C : Addr) (cl : List (Str × Addr)) (fp : List Addr), PTs (X.blk s H scope (compEnvC scope cl C X.env) fp) ifs (tQ (qx X τ) rt))
    (he : ∀ (s : Shared) (H : Hp) (C : Addr) (cl : List (Str × Addr)) (fp : List Addr), PE (X.blk s H scope (compEnvC scope cl C X.env) fp) elt (tE (qx X τ) re)) (hs : ∀ x, foldedSetIterable iter X.env x = pure x) (hsl : ∀ i ∈ slots t, i ∈ own.map (·.2)) :
    PE X (.ListComp elt [⟨tg, iter, ifs, 0⟩] scope pos) (tE (qx X τ) fun env s => bd (ri env s) fun p s1 => bd (compL (stepL t (own.map (·.2)) rt re env) p.2 p.1 s1) (newL mu)) :=
  pe_imp (pe_lc hc hN hi ok hg ht he hs) fun σ H Q ⟨φ, env, s, d, s', r, e, h, q⟩ => lc_read hsl r e h q

/-! ### calls of defs -/
structure KwE where
  np : Nat
  nms : List Str
  perm : List Nat
  deriving DecidableEq
def gK {α : Type} (e : KwE) (us ws : List α) : List α := if us.length = e.np ∧ ws.length = e.nms.length then ((e.perm.mapM fun j => (us ++ ws)[j]?).getD []) else []
/-- a def's promise -/
def spF (K : Kq) (c : List D → S → Option (D × S)) (n : Nat) : Sp := fun vs H Q _ => vs.length = n ∧ ∃ φ s ds d s', Rel K φ s H ∧ RVs K φ s.length H vs ds ∧ c ds s = some (d, s') ∧ PostE K φ s.length H d s' Q
/-- a def's name, its parameters, its calls with keywords -/
structure FnE where
  x : Str
  ps : List Str
  kws : List KwE
structure FnAt (P : Program) (w : World) (K : Kq) (mg : Str → Option Value) (base : Heap) (k : Nat) (f : FnE) (c : List D → S → Option (D × S)) : Prop where
  ex : ∃ fa fd, FnOk P w K mg base CX0 k fa fd f.ps (spF K c f.ps.length) ∧ mg f.x = some (.ref fa) ∧ PySem.W.keepIn K (.ref fa) = true ∧ Binds K fd f.ps [] ∧ ∀ e ∈ f.kws, KBinds K fd f.ps e.nms (gK e) (gK e)
  ari : ∀ ds s z, c ds s = some z → ds.length = f.ps.length
def CFOk (P : Program) (w : World) (K : Kq) (mg : Str → Option Value) (base : Heap) (fns : List FnE) : List CF → Prop
  | [] => True
  | c :: rest => (∀ (i : Nat) (f : FnE), fns[i]? = some f → FnAt P w K mg base (rest.length + 1) f (c i)) ∧ CFOk P w K mg base fns rest
theorem arity {K : Kq} {φ : Ph} {n : Nat} {H : Hp} {vs : List V} {ds : List D} (r : RVs K φ n H vs ds) {m : Nat} (h : ds.length = m) : vs.length = m := by rw [r.length]; exact h
theorem se_call0 {k : Nat} {f : FnE} {c : List D → S → Option (D × S)} {p : Pos} (F : FnAt X.prog X.w (qx X τ) X.mg X.base k f c) (hr : Room k X.A) (hg : Gl X f.x) (hl : ∀ ds s z, c ds s = some z → ds.length = f.ps.length) (hdb : (f.x == ("__debug__" : Str)) = false) :
    PE X (.Call (.Name f.x p) [] [] pos) (tE (qx X τ) fun _ s => c [] s) := by
  obtain ⟨fa, fd, F, hm, hk, hb, _⟩ := F.ex
  refine pe_imp (pe_call0 F hr hg hm hk hb .nil pass0 hdb) fun σ H Q ⟨φ, env, s, d, s', r, e, h, q⟩ => ?_
  exact ⟨arity (K := (qx X τ)) (φ := φ) (n := s.length) (H := H) .nil (hl _ _ _ h), φ, s, [], d, s', r, .nil, h, q⟩
theorem se_call {k : Nat} {f : FnE} {c : List D → S → Option (D × S)} {p : Pos} {a : Expr} {es : List Expr} {rr : Env → S → Option (List D × S)} (F : FnAt X.prog X.w (qx X τ) X.mg X.base k f c) (hr : Room k X.A) (hg : Gl X f.x) (hl : ∀ ds s z, c ds s = some z → ds.length = f.ps.length) (hdb : (f.x == ("__debug__" : Str)) = false)
    (ha : PA X (a :: es) (tA (qx X τ) rr)) (he : starEach (a :: es) X.env = (false, eval a X.env) :: starEach es X.env) (hpl : (backTo pos (starEach es X.env)).any (·.1) = false) :
    PE X (.Call (.Name f.x p) (a :: es) [] pos) (tE (qx X τ) fun env s => bd (rr env s) c) := by
  obtain ⟨fa, fd, F, hm, hk, hb, _⟩ := F.ex
  refine pe_imp (pe_call F hr hg hm hk hb .nil pass0 ha hdb he hpl) fun σ H Q ⟨φ, env, s, d, s', r, e, h, q⟩ => ?_
  obtain ⟨ds, s1, h1, h⟩ := bd_inv h
  refine tA_go r e h1 fun vs H1 φ1 x1 r1 e1 hv => ?_
  rw [List.append_nil]
  exact ⟨arity hv (hl _ _ _ h), φ1, s1, ds, d, s', r1, hv, h, q.ext x1 r1⟩
/-! ### keywords -/
theorem pk_imp {kws : List Keyword} {t t' : TA} (h : PK X kws t) (k : ∀ σ H Q, t' σ H Q → t σ H Q) : PK X kws t' := ⟨fun p pins s σ H Q I hw => h.run p pins s σ H Q I (k σ H Q hw)⟩
theorem sk_nil : PK X [] (tA (qx X τ) fun _ s => some ([], s)) := pk_imp pk_nil fun σ H Q ⟨φ, env, s, ds, s', r, e, h, q⟩ => by
  cases h
  exact q [] H φ Ext.refl r .nil
theorem sk_cons {a : Expr} {kws : List Keyword} {nm : Option Str} {kpos : Pos} {ra : ER} {rr : Env → S → Option (List D × S)} (ha : PE X a (tE (qx X τ) ra)) (hr : PK X kws (tA (qx X τ) rr)) :
    PK X (⟨nm, a, kpos⟩ :: kws) (tA (qx X τ) fun env s => bd (ra env s) fun x s1 => bd (rr env s1) fun xs s2 => some (x :: xs, s2)) := pk_imp (pk_cons ha hr) fun σ H Q ⟨φ, env, s, ds, s', r, e, h, q⟩ => by
  obtain ⟨x, s1, h1, h⟩ := bd_inv h
  obtain ⟨xs, s2, h2, h⟩ := bd_inv h
  cases h
  refine tE_go r e h1 fun v H1 φ1 x1 r1 e1 hv => tA_go r1 e1 h2 fun vs H2 φ2 x2 r2 e2 hvs => ?_
  exact q _ _ _ (x1.trans r1.cm x2) r2 (.cons (hv.mono r1.cm x2) hvs)
theorem mapM_rv {K : Kq} {φ : Ph} {n : Nat} {H : Hp} {vs : List V} {ds : List D} (r : RVs K φ n H vs ds) : ∀ {perm : List Nat} {us : List D}, perm.mapM (fun j => ds[j]?) = some us → ∃ ws, perm.mapM (fun j => vs[j]?) = some ws ∧ RVs K φ n H ws us
  | [], us, h => by cases h; exact ⟨[], rfl, .nil⟩
  | j :: perm, us, h => by
    rw [List.mapM_cons] at h
    cases h1 : ds[j]? with
    | none => rw [h1] at h; cases h
    | some d =>
      rw [h1] at h
      cases h2 : perm.mapM (fun j => ds[j]?) with
      | none =>
        have h : (do let b ← perm.mapM (fun j => ds[j]?); some (d :: b)) = some us := h
        rw [h2] at h; cases h
      | some us' =>
        have h : (do let b ← perm.mapM (fun j => ds[j]?); some (d :: b)) = some us := h
        rw [h2] at h
        cases h
        obtain ⟨v, e1, e2⟩ := r.get h1
        obtain ⟨ws, e3, e4⟩ := mapM_rv r h2
        refine ⟨v :: ws, ?_, .cons e2 e4⟩
        rw [List.mapM_cons, e1]
        show (do let b ← perm.mapM (fun j => vs[j]?); some (v :: b)) = _
        rw [e3]
        rfl
theorem gK_rv {K : Kq} {φ : Ph} {n : Nat} {H : Hp} {vs zs : List V} {ds es us : List D} {e : KwE} (r : RVs K φ n H vs ds) (rz : RVs K φ n H zs es) (h : permD (ds ++ es) e.perm = some us) (h1 : ds.length = e.np) (h2 : es.length = e.nms.length) : RVs K φ n H (gK e vs zs) us := by
  obtain ⟨ws, e1, e2⟩ := mapM_rv (r.append rz) h
  unfold gK
  rw [if_pos ⟨by rw [r.length]; exact h1, by rw [rz.length]; exact h2⟩, e1]
  exact e2
theorem se_callk {k : Nat} {f : FnE} {kw : KwE} {c : List D → S → Option (D × S)} {p : Pos} {a : Expr} {es : List Expr} {kws : List Keyword} {rr rk : Env → S → Option (List D × S)} (F : FnAt X.prog X.w (qx X τ) X.mg X.base k f c) (hkw : kw ∈ f.kws) (hr : Room k X.A) (hg : Gl X f.x) (hl : ∀ ds s z, c ds s = some z → ds.length = f.ps.length) (hdb : (f.x == ("__debug__" : Str)) = false)
    (ha : PA X (a :: es) (tA (qx X τ) rr)) (hk : PK X kws (tA (qx X τ) rk)) (hall : (backToKw pos (keywordEach kws X.env)).all (·.1.isSome) = true) (hks : (backToKw pos (keywordEach kws X.env)).filterMap (·.1) = kw.nms) (he : starEach (a :: es) X.env = (false, eval a X.env) :: starEach es X.env)
    (hpl : ((backTo pos (starEach (a :: es) X.env)).any (·.1) || (backToKw pos (keywordEach kws X.env)).any (·.1.isNone)) = false)
    (hn1 : ∀ env s z, rr env s = some z → z.1.length = kw.np) (hn2 : ∀ env s z, rk env s = some z → z.1.length = kw.nms.length) :
    PE X (.Call (.Name f.x p) (a :: es) kws pos) (tE (qx X τ) fun env s => bd (rr env s) fun vs s1 => bd (rk env s1) fun ws s2 => (permD (vs ++ ws) kw.perm).bind fun us => c us s2) := by
  obtain ⟨fa, fd, F, hm, hkp, hb, hkb⟩ := F.ex
  refine pe_imp (pe_callK F hr hg hm hkp (hkb kw hkw) pass0 ha hk hall hks hdb he hpl) fun σ H Q ⟨φ, env, s, d, s', r, e, h, q⟩ => ?_
  obtain ⟨ds, s1, h1, h⟩ := bd_inv h
  obtain ⟨es', s2, h2, h⟩ := bd_inv h
  cases hp : permD (ds ++ es') kw.perm with
  | none => rw [hp] at h; cases h
  | some us =>
    rw [hp] at h
    refine tA_go r e h1 fun vs H1 φ1 x1 r1 e1 hv => tA_go r1 e1 h2 fun zs H2 φ2 x2 r2 e2 hz => ?_
    have hu := gK_rv (hv.mono r1.cm x2) hz hp (hn1 _ _ _ h1) (hn2 _ _ _ h2)
    exact ⟨arity hu (hl _ _ _ h), φ2, s2, us, d, s', r2, hu, h, q.ext (x1.trans r1.cm x2) r2⟩
theorem se_callk0 {k : Nat} {f : FnE} {kw : KwE} {c : List D → S → Option (D × S)} {p : Pos} {kws : List Keyword} {rk : Env → S → Option (List D × S)} (F : FnAt X.prog X.w (qx X τ) X.mg X.base k f c) (hkw : kw ∈ f.kws) (hr : Room k X.A) (hg : Gl X f.x) (hl : ∀ ds s z, c ds s = some z → ds.length = f.ps.length) (hdb : (f.x == ("__debug__" : Str)) = false)
    (hk : PK X kws (tA (qx X τ) rk)) (hall : (backToKw pos (keywordEach kws X.env)).all (·.1.isSome) = true) (hks : (backToKw pos (keywordEach kws X.env)).filterMap (·.1) = kw.nms)
    (hpl : ((backTo pos (starEach [] X.env)).any (·.1) || (backToKw pos (keywordEach kws X.env)).any (·.1.isNone)) = false)
    (hn1 : kw.np = 0) (hn2 : ∀ env s z, rk env s = some z → z.1.length = kw.nms.length) :
    PE X (.Call (.Name f.x p) [] kws pos) (tE (qx X τ) fun env s => bd (some ([], s)) fun vs s1 => bd (rk env s1) fun ws s2 => (permD (vs ++ ws) kw.perm).bind fun us => c us s2) := by
  obtain ⟨fa, fd, F, hm, hkp, hb, hkb⟩ := F.ex
  refine ⟨fun pins s0 σ H Q I ⟨φ, env, s, d, s', r, e, h, q⟩ => ?_⟩
  refine wpAny_Call_Name_kw (ld_glob I hg hm ?_ hdb)
  obtain ⟨ds, s1, h1, h⟩ := bd_inv h
  cases h1
  obtain ⟨es', s2, h2, h⟩ := bd_inv h
  cases hp : permD ([] ++ es') kw.perm with
  | none => rw [hp] at h; cases h
  | some us =>
    rw [hp] at h
    refine PySem.W.callWith_KW0 (h₀ := X.base) I.ok.mod.kin hkp hall (thn (hk.run pos pins s0 σ H _ I (tA_go (P := fun vs H1 => spF (qx X τ) c f.ps.length (gK kw [] vs) H1 Q E0) r e h2 fun zs H2 φ2 x2 r2 e2 hz => ?_)) fun ws s3 ⟨zs, H3, I3, rz, q3⟩ => ⟨I3.kIn, ?_⟩) hpl
    · have hu := gK_rv (.nil) hz hp hn1.symm (hn2 _ _ _ h2)
      exact ⟨arity hu (hl _ _ _ h), φ2, s2, us, d, s', r2, hu, h, q.ext x2 r2⟩
    · rw [hks]
      exact run_fnk F hr (hkb kw hkw) pass0 I3 .nil rz q3
end
end Kp

/-! Kg, part A: generator expressions that are taken at once: the run of the generator. Own work. -/
namespace Kp
open PySem PySem.Spec PyProof.Rows L2 GenW

/-- what takes the items: its own objects, by what it has been handed -/
structure Kon where
  as : List Addr
  C : List Value → List (Addr × Obj) → Prop
  fst : ∀ us ps, C us ps → ps.map (·.1) = as
  nc : ∀ us ps, C us ps → ∀ p ∈ ps, ∀ v, p.2.data ≠ .cell v
/-- while the generator sleeps -/
structure Sl (κ : Kon) (us : List Value) (v : Value) (s s' : Shared) : Prop where
  os : s'.os = s.os
  bare : AllBare s'.gens
  keep : ∀ b o, b ∉ κ.as → s.heap.get? b = some o → s'.heap.get? b = some o
  own : ∀ ps, κ.C us ps → (∀ p ∈ ps, s.heap.get? p.1 = some p.2) → ∃ ps', κ.C (us ++ [v]) ps' ∧ ∀ p ∈ ps', s'.heap.get? p.1 = some p.2
def GIk (X : Cx) (κ : Kon) (ip : List (Addr × Obj)) (us : List Value) (σ : L2.St) (H : Hp) (s : Shared) : Prop :=
  ∃ ps, κ.C us ps ∧ Inv X (ps ++ ip) σ H s
section
variable {X : Cx} {κ : Kon} {ip : List (Addr × Obj)} {us : List Value} {v : Value} {σ : L2.St} {H : Hp} {s s' : Shared}
theorem Kon.mem (κ : Kon) {us : List Value} {ps : List (Addr × Obj)} (h : κ.C us ps) {p : Addr × Obj} (hp : p ∈ ps) : p.1 ∈ κ.as := by
  rw [← κ.fst us ps h]
  exact List.mem_map.mpr ⟨p, hp, rfl⟩
theorem Kon.has (κ : Kon) {us : List Value} {ps : List (Addr × Obj)} (h : κ.C us ps) {b : Addr} (hb : b ∈ κ.as) : ∃ p ∈ ps, p.1 = b := by
  rw [← κ.fst us ps h] at hb
  exact List.mem_map.mp hb
theorem GIk.woken (hpn : ∀ p ∈ X.pn, p.1 ∉ κ.as) (hip : ∀ p ∈ ip, p.1 ∉ κ.as) (hA : ∀ S ∈ κ.as, Apart X S) (h : GIk X κ ip us σ H s) (z : Sl κ us v s s') : GIk X κ ip (us ++ [v]) σ H s' := by
  obtain ⟨ps, hC, I⟩ := h
  have pin : ∀ p ∈ ps, _ := fun p hp => I.pin p (List.mem_append_right _ (List.mem_append_left _ hp))
  have as0 : ∀ b ∈ κ.as, H b = none ∧ b ≠ X.env.locals ∧ b ∉ X.fs := fun b hb => by
    obtain ⟨p, hp, e⟩ := κ.has hC hb
    obtain ⟨_, h2, h3, h4, _⟩ := pin p hp
    rw [e] at h2 h3 h4
    exact ⟨h2, h3, h4⟩
  have I0 : Inv X ip σ H s := I.pins_of fun p hp => I.pin p (List.mem_append_right _ (List.mem_append_right _ hp))
  have nt : ∀ b u, H b = some u → b ∉ κ.as := fun b u q hb => by rw [(as0 b hb).1] at q; cases q
  obtain ⟨z1, z2, z3, z4⟩ := z
  obtain ⟨ps', hC', e'⟩ := z4 ps hC fun p hp => (pin p hp).1
  obtain ⟨hh, g, d, t, o⟩ := s'
  have ho : o = s.os := z1
  subst ho
  have J : Inv X ip σ H { s with heap := hh, gens := g, drawn := d, toks := t } := by
    refine I0.step (g' := g) (t' := t) (d' := d) (ch := κ.as) (fun b hb => ?_)
      (fun b ob _ _ hc q _ => z3 b ob hc q) (fun b ob _ _ hc q _ => ⟨ob.slots, z3 b ob hc q⟩) (fun _ _ _ _ n => n) (fun b ob hc q => ⟨ob, z3 b ob hc q⟩)
      (fun _ _ q => q) (fun _ _ _ q => q) (fun b ps q => ⟨#[], by rw [q]; simp⟩) (fun m hm => ?_) (fun b u q => ?_) z2
    · refine ⟨.inr (hA b hb).1, (hA b hb).2.1, (hA b hb).2.2, fun p hp e => ?_⟩
      rcases List.mem_append.mp hp with hp | hp
      · exact hpn p hp (by rw [e]; exact hb)
      · exact hip p hp (by rw [e]; exact hb)
    · obtain ⟨ob, es, ep, ho, r⟩ := hm
      exact ⟨ob, es, ep, z3 _ ob (fun hb => (hA _ hb).2.1 rfl) ho, r⟩
    · refine (I0.hok b u q).stay (fun c v hc y => z3 c v ?_ y) (fun _ y => y) fun _ _ y => y
      rcases hc with y | y
      · rw [y]; exact nt b u q
      · exact nt c _ y
  refine ⟨ps', hC', J.pins_of fun p hp => ?_⟩
  rcases List.mem_append.mp hp with hp | hp
  · obtain ⟨a1, a2, a3⟩ := as0 p.1 (κ.mem hC' hp)
    exact ⟨e' p hp, a1, a2, a3, κ.nc _ _ hC' p hp⟩
  · exact J.pin p (List.mem_append_right _ hp)
end

/-! ### the run -/
def GYk (X : Cx) (κ : Kon) (stop : V → Bool) (En : List V → Hp → Prop) : Protocol := fun n s₀ v s kap =>
  ∃ us ys y ip σ H, n + 1 + us.length = sizeLine ∧ Vals ys us ∧ RelV y v ∧ GIk X κ ip us σ H s ∧ (∀ b ∈ κ.as, s₀.heap.get? b = s.heap.get? b) ∧ (stop y = true → En (ys ++ [y]) H) ∧ (stop y = false → ∀ s', Sl κ us v s s' → kap (.send .none) s')
def GRk (X : Cx) (κ : Kon) (En : List V → Hp → Prop) : GenEnd := fun n s₀ r s => r = .ok .next ∧ ∃ us ys σ H, us.length ≤ sizeLine ∧ Vals ys us ∧ GIk X κ [] us σ H s ∧ (∀ b ∈ κ.as, s₀.heap.get? b = s.heap.get? b) ∧ En ys H
def TurnG (J : L2.It) (g : TG) (tt : TT) (te : TE) (vs : List Nat) (σ : L2.St) (W : Nat → Nat → List V → Hp → Prop) (stop : V → Bool) (En : List V → Hp → Prop) : Prop := ∀ i m ys H, W i m ys H →
  (J.stop i H ∧ En ys H) ∨ (J.go i H ∧ ∃ Nx : List V → Hp → Prop, (∀ ys' H', Nx ys' H' → ∃ m', m' < m ∧ W (i + 1) m' ys' H') ∧ ∀ x H', J.yld i H x H' → g x (wipe σ vs) H' fun σ2 H2 => wipe σ2 vs = wipe σ vs ∧ tt σ2 H2 fun b H3 =>
    if b = true then te σ2 H3 fun y H4 => ys.length < sizeLine ∧ (stop y = true → En (ys ++ [y]) H4) ∧ (stop y = false → Nx (ys ++ [y]) H4) else Nx ys H3)
section
variable {X : Cx} {κ : Kon} {A : Around} {elt tg iter : Expr} {ifs : List Expr} {scope : Scope} {pos : Pos} {it : Addr} {fp : List Addr} {tn : Nat → Heap → Prop} {J : L2.It} {g : TG} {tt : TT} {te : TE} {vs : List Nat} {σ : L2.St}
  {W : Nat → Nat → List V → Hp → Prop} {stop : V → Bool} {En : List V → Hp → Prop}
theorem gx_none {c : Code} {fs : List Frame} {α : Type} {t : Sem α} {s : Shared} {Q : α → Shared → Prop} {E : Value → Shared → Prop} (hxe : X.xe = fun _ _ => False) (h : wpAny (model X.prog X.w) X.A t Q X.xe s) : wpAny (model X.prog X.w) X.A t Q E s :=
  wpAny_mono h (fun _ _ x => x) fun _ _ x => by rw [hxe] at x; exact x.elim
theorem seg_gx (hc : X.calm = true) (hxe : X.xe = fun _ _ => False) (hco : X.env.scope.isCoroutine = false)
    (hA : A.over (.compLoop (.GeneratorExp elt [⟨tg, iter, ifs, 0⟩] scope pos) 0 (.ref it) .none X.env) [] = X.A)
    (hpn : ∀ p ∈ X.pn, p.1 ∉ κ.as) (hap : ∀ S ∈ κ.as, Apart X S) (hfa : ∀ b ∈ fp, b ∉ κ.as) (hex : ∀ b ∈ fp, b ∈ X.ex) (hfn : ∀ p ∈ X.pn, ∀ b ∈ fp, p.1 ≠ b)
    (T : Turn X.prog X.w X.K tg J fp it tn) (pg : PG X tg g) (pt : PTs X ifs tt) (pe : PE X elt te) (turn : TurnG J g tt te vs σ W stop En) :
    ∀ (m n i : Nat) (us : List Value) (ys : List V) (s₀ s : Shared) (H : Hp), n + us.length = sizeLine → Vals ys us → W i m ys H → tn i s.heap → (∀ b ∈ fp, H b = none) → GIk X κ [] us (wipe σ vs) H s → (∀ b ∈ κ.as, s₀.heap.get? b = s.heap.get? b) →
      Seg (model X.prog X.w) A (GRk X κ En) (GYk X κ stop En) n s₀ (.compLoop (.GeneratorExp elt [⟨tg, iter, ifs, 0⟩] scope pos) 0 (.ref it) .none X.env)
        ((model X.prog X.w).den (.compLoop (.GeneratorExp elt [⟨tg, iter, ifs, 0⟩] scope pos) 0 (.ref it) .none X.env)) [] s := by
  have non : ∀ {α : Type} {t : Sem α} {s : Shared} {Q : α → Shared → Prop} {E : Value → Shared → Prop}, wpAny (model X.prog X.w) X.A t Q X.xe s → wpAny (model X.prog X.w) X.A t Q E s := fun h =>
    wpAny_mono h (fun _ _ x => x) fun _ _ x => by rw [hxe] at x; exact x.elim
  intro m
  induction m using Nat.strongRecOn with
  | ind m ih =>
    intro n i us ys s₀ s H hn rv w st hfr hG h0
    obtain ⟨ps, hC, I⟩ := hG
    have same : ∀ {ip : List (Addr × Obj)} {σ' : L2.St} {H' : Hp} {s' : Shared}, Inv X (ps ++ ip) σ' H' s' → ∀ b ∈ κ.as, s₀.heap.get? b = s'.heap.get? b := fun {ip σ' H' s'} I' b hb => by
      obtain ⟨p, hp, e⟩ := κ.has hC hb
      have z1 := (I.pin p (List.mem_append_right _ (List.mem_append_left _ hp))).1
      have z2 := (I'.pin p (List.mem_append_right _ (List.mem_append_left _ hp))).1
      rw [e] at z1 z2
      rw [h0 b hb, z1, z2]
    have hps : ∀ p ∈ ps, p.1 ∈ κ.as := fun p hp => κ.mem hC hp
    have stat : ∀ {ps : List (Addr × Obj)} {σ' : L2.St} {H' : Hp} {s' : Shared}, (∀ p ∈ ps, p.1 ∈ κ.as) → Inv X (ps ++ []) σ' H' s' → (∀ b ∈ fp, H' b = none) → ∀ b ∈ fp, FpOk X (ps ++ []) H' b := fun {ps σ' H' s'} hps I' hn b hb =>
      ⟨hn b hb, (I'.ok.exf b (hex b hb)).1, I'.ok.exfs b (hex b hb), .inl (hex b hb), fun x c e => (I'.ok.exf b (hex b hb)).2 x c e, fun p hp e => by
        rcases List.mem_append.mp hp with hp | hp
        · exact hfn p hp b hb e
        · rw [List.append_nil] at hp
          exact hfa b hb (by rw [← e]; exact hps p hp)⟩
    show Seg _ A _ _ _ s₀ _ ((compTurn (.GeneratorExp elt [⟨tg, iter, ifs, 0⟩] scope pos) 0 (.ref it) .none X.env).onRaise (leaving X.env)) [] s
    rw [compTurn_gen, Sem.onRaise_eq_wrap]
    refine seg_bind_wrap (wpAny_standAt ?_)
    rcases turn i m ys H w with ⟨hs, he⟩ | ⟨hgo, Nx, hNx, step⟩
    · refine seg_bind_wrap ?_
      rw [hA]
      refine thnF (T.done X rfl rfl rfl hc i (ps ++ []) s _ H (fun _ _ => False) I (stat hps I hfr) st hs) fun r s1 ⟨hr, I1⟩ => ?_
      subst hr
      exact seg_end (.ok .next) ⟨rfl, us, ys, _, H, by omega, rv, ⟨ps, hC, I1⟩, same I1, he⟩
    · refine seg_bind_wrap ?_
      rw [hA]
      refine thnF (T.item X rfl rfl rfl hc i (ps ++ []) s _ H (fun _ _ => False) I (stat hps I hfr) st hgo) fun r s1 ⟨u, hr, h1⟩ => ?_
      subst hr
      refine seg_bind_wrap ?_
      rw [hA]
      refine thnF (E := fun _ _ => _) (wpAny_mono h1 (fun _ _ x => x) fun _ _ x => x) fun _ s2 ⟨x, H2, I2, r2, y2, st2, n2⟩ => ?_
      have I2' := I2.pinned (stat hps I2 n2) (T.obj _ _ st2)
      refine seg_bind_wrap ?_
      rw [hA]
      refine thnF (wpAny_mono (pg.run _ s2 _ H2 x u _ I2' r2 (step x H2 y2)) (fun _ _ x => x) fun _ _ x => by rw [hxe] at x; exact x) fun _ s3 ⟨σ3, H3, I3, hw3, q3⟩ => ?_
      refine seg_bind_wrap ?_
      rw [hA]
      refine thnF (wpAny_mono (pt.run _ s3 σ3 H3 _ I3 q3) (fun _ _ x => x) fun _ _ x => by rw [hxe] at x; exact x) fun b s4 ⟨H4, I4, q4⟩ => ?_
      -- the turn's end
      have fin : ∀ {n : Nat} {us : List Value} {ys : List V} {s₀ s' : Shared} {H' : Hp}, n + us.length = sizeLine → Vals ys us → GIk X κ (pinsAt fp s2.heap) us σ3 H' s' → (∀ b ∈ κ.as, s₀.heap.get? b = s'.heap.get? b) → Nx ys H' →
          Seg (model X.prog X.w) A (GRk X κ En) (GYk X κ stop En) n s₀ (.compLoop (.GeneratorExp elt [⟨tg, iter, ifs, 0⟩] scope pos) 0 (.ref it) .none X.env)
            ((model X.prog X.w).den (.compLoop (.GeneratorExp elt [⟨tg, iter, ifs, 0⟩] scope pos) 0 (.ref it) .none X.env)) [] s' := fun {n us ys s₀ s' H'} hn' rv' hG' h0' nx => by
        obtain ⟨m', hm, w'⟩ := hNx ys H' nx
        obtain ⟨ps', hC', I'⟩ := hG'
        have pin' : ∀ b ∈ fp, ∀ o, s2.heap.get? b = some o → s'.heap.get? b = some o ∧ H' b = none := fun b hb o e =>
          let z := I'.pin (b, o) (List.mem_append_right _ (List.mem_append_right _ (mem_pinsAt hb e)))
          ⟨z.1, z.2.1⟩
        have hl : (wipe σ vs).length = σ3.length := by rw [← hw3, wipe_length]
        refine ih m' hm n (i + 1) us ys s₀ s' H' hn' rv' w' (T.keep _ _ _ st2 fun b hb o e => (pin' b hb o e).1) (fun b hb => ?_) ⟨ps', hC', ?_⟩ h0'
        · obtain ⟨o, e, _⟩ := T.obj _ _ st2 b hb
          exact (pin' b hb o e).2
        · rw [List.append_nil]
          refine (I'.unpinned (pins := ps')).weak hl fun j v e => ?_
          rw [← hw3] at e
          exact (wipe_some e).1
      rw [List.append_nil] at I4
      cases b with
      | false =>
        simp only [Bool.false_eq_true, if_false] at q4 ⊢
        exact seg_again rfl (fin hn rv ⟨ps, hC, I4⟩ (same I4) q4)
      | true =>
        simp only [if_true] at q4 ⊢
        have hy : ∀ v, yieldOut X.env v = yieldValue v := fun v => by simp only [yieldOut, hco, Bool.false_eq_true, if_false]
        simp only [hy]
        rw [Sem.bind_eq_wrap', Sem.bind_eq_wrap', Sem.wrap_wrap, Sem.wrap_wrap]
        refine seg_wrap ?_
        rw [hA]
        refine thnF (wpAny_mono (pe.run _ s4 σ3 H4 _ I4 q4) (fun _ _ x => x) fun _ _ x => by rw [hxe] at x; exact x) fun v s5 ⟨y, H5, I5, r5, hlt, hst, hnx⟩ => ?_
        have e1 := rv.length
        obtain ⟨n, rfl⟩ : ∃ k, n = k + 1 := ⟨n - 1, by omega⟩
        have G5 : GIk X κ (pinsAt fp s2.heap) us σ3 H5 s5 := ⟨ps, hC, I5⟩
        refine seg_at (seg_yield rfl rfl rfl ⟨us, ys, y, pinsAt fp s2.heap, σ3, H5, hn, rv, r5, G5, same I5, hst, fun hsp s' z => ?_⟩)
        refine seg_again rfl (fin ?_ (rv.append (.cons r5 .nil)) (G5.woken hpn (fun p hp => ?_) hap z) (fun _ _ => rfl) (hnx hsp))
        · rw [List.length_append, List.length_singleton]; omega
        · exact hfa _ (of_pinsAt hp).1
theorem seg_gx_start (hc : X.calm = true) (hxe : X.xe = fun _ _ => False) (hco : X.env.scope.isCoroutine = false)
    (hA : A.over (.compLoop (.GeneratorExp elt [⟨tg, iter, ifs, 0⟩] scope pos) 0 (.ref it) .none X.env) [] = X.A)
    (hpn : ∀ p ∈ X.pn, p.1 ∉ κ.as) (hap : ∀ S ∈ κ.as, Apart X S) (hfa : ∀ b ∈ fp, b ∉ κ.as) (hex : ∀ b ∈ fp, b ∈ X.ex) (hfn : ∀ p ∈ X.pn, ∀ b ∈ fp, p.1 ≠ b)
    (T : Turn X.prog X.w X.K tg J fp it tn) (pg : PG X tg g) (pt : PTs X ifs tt) (pe : PE X elt te) (turn : TurnG J g tt te vs σ W stop En)
    {m : Nat} {s₀ s : Shared} {H : Hp} (w : W 0 m [] H) (st : tn 0 s.heap) (hfr : ∀ b ∈ fp, H b = none) (hG : GIk X κ [] [] (wipe σ vs) H s) (h0 : ∀ b ∈ κ.as, s₀.heap.get? b = s.heap.get? b) :
      Seg (model X.prog X.w) A (GRk X κ En) (GYk X κ stop En) sizeLine s₀ (.compStart (.GeneratorExp elt [⟨tg, iter, ifs, 0⟩] scope pos) 0 (.ref it) .none X.env)
        ((model X.prog X.w).den (.compStart (.GeneratorExp elt [⟨tg, iter, ifs, 0⟩] scope pos) 0 (.ref it) .none X.env)) [] s := by
  have loop : Seg (model X.prog X.w) A (GRk X κ En) (GYk X κ stop En) sizeLine s₀ (.compLoop (.GeneratorExp elt [⟨tg, iter, ifs, 0⟩] scope pos) 0 (.ref it) .none X.env)
        ((model X.prog X.w).den (.compLoop (.GeneratorExp elt [⟨tg, iter, ifs, 0⟩] scope pos) 0 (.ref it) .none X.env)) [] s :=
    seg_gx hc hxe hco hA hpn hap hfa hex hfn T pg pt pe turn m sizeLine 0 [] [] s₀ s H (by simp) .nil w st hfr hG h0
  show Seg _ A _ _ _ s₀ _ ((compStart (.GeneratorExp elt [⟨tg, iter, ifs, 0⟩] scope pos) 0 (.ref it) .none X.env).onRaise (leaving X.env)) [] s
  unfold compStart
  rw [Sem.onRaise_eq_wrap]
  show Seg _ A _ _ _ s₀ _ ((ask >>= _).wrap _ _ _ _) [] s
  refine seg_bind_wrap (wpAny_askSetting ?_)
  split
  · exact seg_again rfl loop
  · first
      | exact seg_bind_wrap (wpAny_rule (seg_bind_wrap (wpAny_standAt (seg_bind_wrap (T.self _ 0 s _ _ st (seg_again rfl loop))))))
      | (refine seg_bind_wrap (wpAny_rule ?_); show Seg _ A _ _ _ s₀ _ ((standAt iter.pos >>= _).wrap _ _ _ _) [] s; exact seg_bind_wrap (wpAny_standAt (seg_bind_wrap (T.self _ 0 s _ _ st (seg_again rfl loop)))))
end
end Kp

/-! Kg, part B: the making of a generator. Own work. -/
namespace Kp
open PySem PySem.Spec PyProof.Rows L2 GenW

theorem over_gen {A : Around} {elt : Expr} {gs : List Comprehension} {scope : Scope} {pos : Pos} {it acc : Value} {env : PySem.Env} : A.over (.compLoop (.GeneratorExp elt gs scope pos) 0 it acc env) [] = A.deeper env := by
  first
    | rfl
    | (obtain ⟨hd, d, fr, gs, u⟩ := A; simp [Around.over, Around.deeper, marksOver, frameCount, unitsOf, envsOf, guardsOf, pushEnvs, pushGuards, Code.envs, Code.env?, Code.isFrame, Code.guards, Code.isGuard, Code.weight, Code.frames, Code.isCreation, Code.isCaller, Code.cUnits])
/-- the context of a generator expression's run -/
abbrev gcx (X : Cx) (A : Around) (s : Shared) (H : Hp) (scope : Scope) (cenv : PySem.Env) (fp : List Addr) (pn : List (Addr × Obj)) : Cx :=
  { X with A := A, s_0 := s, H_0 := H, env := cenv, outer := X.stack, stack := cenv :: X.stack, ex := fp, fn := fun x => scope.names.lookup x == some .cell, calm := true, pn := pn, xe := fun _ _ => False }
section
variable {X : Cx} {pins : List (Addr × Obj)} {σ : L2.St} {H : Hp} {s : Shared}
theorem gen_start {scope : Scope} {own : List (Str × Nat)} {fp : List Addr} {code : Value} {h' : Heap} {m : Str → Option Value} {G : Array GenState} {tk : Nat} {A : Around}
    (I : Inv X pins σ H s) (ok : BlkOk X.N X.env.scope scope own) (hnc : ∀ y ∈ scope.names, y.2 ≠ .cell) (hN : X.N.Nodup) (hfp : ∀ b ∈ fp, FpOk X pins H b ∧ b < s.heap.objs.size)
    (hns : h'.Ns s.heap.objs.size m) (hk : ∀ b o, s.heap.get? b = some o → h'.get? b = some o) (hG : AllBare G)
    (hA : A.frames = some (genEnv scope (cloFrom X.env.cells scope.names []) s.heap.objs.size code builtinsNs X.env :: X.stack)) (hh : A.handled = none) :
    Inv (gcx X A s H scope (genEnv scope (cloFrom X.env.cells scope.names []) s.heap.objs.size code builtinsNs X.env) fp []) [] (wipe σ (own.map (·.2))) H { s with heap := h', gens := G, toks := tk } := by
  have hfree : ∀ y ∈ scope.names, y.2 = .free → ∃ c, X.env.cells.lookup y.1 = some c := fun y hy e => by
    rcases ok.free y hy e with k | k
    · exact I.ok.has _ (.inl k)
    · exact I.ok.has _ (.inr k)
  generalize hcenv : genEnv scope (cloFrom X.env.cells scope.names []) s.heap.objs.size code builtinsNs X.env = cenv at hA
  have hL : cenv.locals = s.heap.objs.size := by rw [← hcenv]; rfl
  have hcl : cenv.cells = cloFrom X.env.cells scope.names [] := by rw [← hcenv]; rfl
  have hsc : cenv.scope = scope := by rw [← hcenv]; rfl
  have hfr : cenv.frame = some cenv.locals := by rw [← hcenv]; rfl
  have cm : ∀ {y c}, (y, c) ∈ cloFrom X.env.cells scope.names [] → X.env.cells.lookup y = some c ∧ c < s.heap.objs.size := fun {y c} hm => by
    rcases cloFrom_mem hm with hm | ⟨h1, rfl⟩
    · cases hm
    · obtain ⟨c, hc⟩ := hfree _ h1 rfl
      rw [hc]
      obtain ⟨w, z⟩ := I.cell _ _ hc
      exact ⟨rfl, z.lt⟩
  have mem : ∀ {y c}, cenv.cells.lookup y = some c → X.env.cells.lookup y = some c ∧ c < s.heap.objs.size := fun {y c} e => by
    rw [hcl] at e
    exact cm (PySem.mem_of_lookup e)
  have look : ∀ {y}, scope.names.lookup y = some .free → ∃ c, cenv.cells.lookup y = some c ∧ X.env.cells.lookup y = some c := fun {y} hl => by
    have hy : (y, NameKind.free) ∈ scope.names := PySem.mem_of_lookup hl
    obtain ⟨c', e'⟩ := mem_lookup (cloFrom_has (cells := X.env.cells) (acc := []) hy)
    rw [← hcl] at e'
    exact ⟨c', e', (mem e').1⟩
  have okB : (gcx X A s H scope cenv fp []).Ok := by
    refine ⟨I.ok.mod, by show cenv.scope.kind = _; rw [hsc]; exact ok.kind, by show cenv.globals = _; rw [← hcenv]; exact I.ok.glob, by show cenv.builtins = _; rw [← hcenv]; rfl, by show s.heap.objs.size ≤ cenv.locals; rw [hL]; exact Nat.le_refl _,
      fun y z c e1 e2 => I.ok.inj y z c (mem e1).1 (mem e2).1, fun y hy => ?_, fun y c z e => ?_, fun _ => hh, hA, .inr ⟨rfl, hfr⟩, fun b hb => ⟨?_, fun y c e z => ?_⟩, I.bs, Nat.le_trans I.ok.bsz I.sz, fun b o e hb => ?_, fun b hb z => ?_, I.stack, I.stkFree⟩
    · have key : ∀ k, scope.names.lookup y = some k → (k = .cell ∨ k = .free) → ∃ c, cenv.cells.lookup y = some c := fun k hk hk' => by
        rcases hk' with rfl | rfl
        · exact absurd rfl (hnc _ (PySem.mem_of_lookup hk))
        · obtain ⟨c, h1, _⟩ := look hk
          exact ⟨c, h1⟩
      rcases hy with hy | hy
      · have hy : cenv.scope.names.lookup y = some .cell := hy
        rw [hsc] at hy
        exact key _ hy (.inl rfl)
      · have hy : cenv.scope.names.lookup y = some .free := hy
        rw [hsc] at hy
        exact key _ hy (.inr rfl)
    · have z : (scope.names.lookup y == some NameKind.cell) = true := z
      have z : scope.names.lookup y = some .cell := by simpa using z
      exact absurd rfl (hnc _ (PySem.mem_of_lookup z))
    · show b ≠ cenv.locals
      rw [hL]; exact Nat.ne_of_lt (hfp b hb).2
    · exact (hfp b hb).1.2.2.2.2.1 y c (mem e).1 z
    · rcases (hfp b hb).1.2.2.2.1 with z | z
      · exact I.ok.noex b o e z
      · exact absurd (Nat.lt_of_lt_of_le (Heap.lt_size e) (Nat.le_trans I.ok.bsz z)) (Nat.lt_irrefl _)
    · rcases List.mem_cons.mp (I.stkSub b z) with z | z
      · exact (hfp b hb).1.2.1 z
      · exact (hfp b hb).1.2.2.1 z
  refine ⟨okB, rfl, hG, Un.kept hk, ⟨m, ?_, fun i y av e1 e2 e3 => ?_⟩, fun y c e => ?_, ?_, fun y c e => ?_, fun p hp => ?_, I.hok.kept hk, by rw [wipe_length]; exact I.len⟩
  · show Heap.Ns _ cenv.locals _
    rw [hL]
    exact hns
  · obtain ⟨e2, hne⟩ := wipe_some e2
    have hfr2 : scope.names.lookup y = some .free := by
      have key : ∀ k, scope.names.lookup y = some k → (k = .local ∨ k = .cell) → False := fun k hk hk' => by
        rcases ok.own _ (PySem.mem_of_lookup hk) hk' with e' | e'
        · obtain ⟨p, hp, hpy⟩ := List.mem_map.mp e'
          have e3 := ok.ix p hp
          have : p.1 = y := hpy
          rw [this] at e3
          exact hne (List.mem_map.mpr ⟨p, hp, nodup_ix hN e3 e1⟩)
        · exact e' (List.mem_of_getElem? e1)
      have e3 : Vis cenv.scope y := e3
      rw [hsc] at e3
      rcases e3 with e3 | e3 | e3
      · exact (key _ e3 (.inl rfl)).elim
      · exact (key _ e3 (.inr rfl)).elim
      · exact e3
    obtain ⟨m', hn, hl⟩ := I.loc
    have hvis : Vis X.env.scope y := (ok.free _ (PySem.mem_of_lookup hfr2) rfl).elim (fun k => .inr (.inl k)) (fun k => .inr (.inr k))
    obtain ⟨w, r, q⟩ := hl i y av e1 e2 hvis
    refine ⟨w, r, .inr ⟨.inr (by show cenv.scope.names.lookup y = _; rw [hsc]; exact hfr2), ?_⟩⟩
    obtain ⟨c, h1, h2⟩ := look hfr2
    rcases q with ⟨k, _⟩ | ⟨_, c', e', z⟩
    · have k : X.env.scope.names.lookup y = some .local := k
      rcases ok.free _ (PySem.mem_of_lookup hfr2) rfl with k' | k' <;> rw [show X.env.scope.names.lookup y = _ from k'] at k <;> cases k
    · rw [h2] at e'; cases e'
      exact ⟨c, h1, z.keeps hk⟩
  · obtain ⟨w, z⟩ := I.cell y c (mem e).1
    exact ⟨w, z.keeps hk⟩
  · show H cenv.locals = none
    rw [hL]; exact I.hok.fresh (Nat.le_refl _)
  · exact I.freeC y c (mem e).1
  · exact absurd (show p ∈ ([] : List (Addr × Obj)) ++ [] from hp) (by simp)
theorem inv_pinnedX {A : Around} {s0 : Shared} {H0 : Hp} {scope : Scope} {cenv : PySem.Env} {fp : List Addr} {pn : List (Addr × Obj)} (I : Inv (gcx X A s0 H0 scope cenv fp []) [] σ H s)
    (h : ∀ p ∈ pn ++ pins, s.heap.get? p.1 = some p.2 ∧ H p.1 = none ∧ p.1 ≠ cenv.locals ∧ p.1 ∉ frs X.stack ∧ ∀ v, p.2.data ≠ .cell v) : Inv (gcx X A s0 H0 scope cenv fp pn) pins σ H s :=
  ⟨⟨I.ok.mod, I.ok.kind, I.ok.glob, I.ok.blt, I.ok.above, I.ok.inj, I.ok.has, I.ok.cab, I.ok.hd, I.ok.frames, I.ok.stk, I.ok.exf, I.ok.bs, I.ok.bsz, I.ok.noex, I.ok.exfs, I.ok.funs, I.ok.frf⟩, I.os, I.bare, I.base, I.loc, I.cell, I.free, I.freeC, h, I.hok, I.len⟩
end

/-! ### what the taker sees -/
structure RoomG (k : Nat) (A : Around) : Prop where
  hd : A.handled = none
  dp : A.depth + 1 + 3 * k + 5 < recursionLimit
  un : A.units + 3 + 16 * k + 200 < cLine
theorem RoomG.room {k : Nat} {A : Around} (r : RoomG k A) (env : PySem.Env) : Room k (A.deeper env) := ⟨r.hd, r.dp, r.un⟩
def XP (X : Cx) (pins : List (Addr × Obj)) (σ : L2.St) (κ : Kon) (En : List V → Hp → Prop) (s1 : Shared) : Prop :=
  ∃ (us : List Value) (ys : List V) (H' : Hp), us.length ≤ sizeLine ∧ Vals ys us ∧ Inv X pins σ H' s1 ∧ (∃ ps, κ.C us ps ∧ ∀ p ∈ ps, s1.heap.get? p.1 = some p.2 ∧ H' p.1 = none) ∧ En ys H'
def XR (X : Cx) (pins : List (Addr × Obj)) (σ : L2.St) (κ : Kon) (En : List V → Hp → Prop) : GenEnd := fun n s₀ r s1 => r = .ok .next ∧ (XP X pins σ κ En s1 ∧ ∀ b ∈ κ.as, s₀.heap.get? b = s1.heap.get? b)
def XY (X : Cx) (pins : List (Addr × Obj)) (σ : L2.St) (a : Addr) (g : Nat) (κ : Kon) (stop : V → Bool) (En : List V → Hp → Prop) : Protocol := fun n s₀ v s1 kap =>
  ∃ us ys y H', n + 1 + us.length = sizeLine ∧ Vals ys us ∧ RelV y v ∧ Inv X pins σ H' s1 ∧ s1.heap.IsGen a g ∧ (∃ ps, κ.C us ps ∧ ∀ p ∈ ps, s1.heap.get? p.1 = some p.2 ∧ H' p.1 = none) ∧ (∀ b ∈ κ.as, s₀.heap.get? b = s1.heap.get? b) ∧
    (stop y = true → En (ys ++ [y]) H') ∧ (stop y = false → ∀ s', Sl κ us v s1 s' → kap (.send .none) s')
def GxMade (X : Cx) (pins : List (Addr × Obj)) (σ : L2.St) (k : Nat) (stop : V → Bool) (En : List V → Hp → Prop) (u : Value) (s' : Shared) : Prop :=
  ∃ (a : Addr) (g : Nat) (c : Code) (H1 : Hp), u = .ref a ∧ a < s'.heap.objs.size ∧ s'.heap.IsGen a g ∧ s'.gens[g]? = some (.fresh c) ∧ Inv X pins σ H1 s' ∧
    ∀ (A : Around) (κ : Kon) (s2 : Shared), RoomG k A → A.frames = some X.stack → (∀ b ∈ κ.as, s'.heap.objs.size ≤ b) → (∀ b o, s'.heap.get? b = some o → s2.heap.get? b = some o) →
      (∃ ps, κ.C [] ps ∧ ∀ p ∈ ps, s2.heap.get? p.1 = some p.2) → s2.os = s'.os → AllBare s2.gens →
      Seg (model X.prog X.w) A (XR X pins σ κ En) (XY X pins σ a g κ stop En) sizeLine s2 c ((model X.prog X.w).den c) [] s2
/-- what is asked of the clause and the item -/
def tGx (P : Addr) (wi : TI) (g : TG) (tt : TT) (te : TE) (vs : List Nat) (stop : V → Bool) (En : List V → Hp → Prop) (σ : L2.St) (H : Hp) : Prop :=
  wi σ H fun J H1 => GxR.TabG H1 P ∧ ∀ H2, GxR.Tabbed P H1 H2 → ∃ W, (∃ m, W 0 m [] H2) ∧ TurnG J g tt te vs σ W stop En
section
variable {X : Cx} {pins : List (Addr × Obj)} {σ : L2.St} {H : Hp} {s : Shared}
theorem gx_eval {elt tg iter : Expr} {ifs : List Expr} {scope : Scope} {own : List (Str × Nat)} {pos : Pos} {wi : TI} {g : TG} {tt : TT} {te : TE} {stop : V → Bool} {En : List V → Hp → Prop} {k : Nat} {c P : Addr}
    (hr : Room (k + 1) X.A) (hN : X.N.Nodup) (TB : GxR.TabB X.base X.mg c P) (hcode : X.env.code = .ref c) (hi : PI X tg iter wi) (ok : BlkOk X.N X.env.scope scope own) (hnc : ∀ y ∈ scope.names, y.2 ≠ .cell) (hco : scope.isCoroutine = false) (hdot : scope.names.lookup (".0" : Str) = some NameKind.local)
    (hg : ∀ (A : Around) (s : Shared) (H : Hp) (C : Addr) (code : Value) (fp : List Addr) (pn : List (Addr × Obj)), Room k A → PG (gcx X A s H scope (genEnv scope (cloFrom X.env.cells scope.names []) C code builtinsNs X.env) fp pn) tg g)
    (ht : ∀ (A : Around) (s : Shared) (H : Hp) (C : Addr) (code : Value) (fp : List Addr) (pn : List (Addr × Obj)), Room k A → PTs (gcx X A s H scope (genEnv scope (cloFrom X.env.cells scope.names []) C code builtinsNs X.env) fp pn) ifs tt)
    (he : ∀ (A : Around) (s : Shared) (H : Hp) (C : Addr) (code : Value) (fp : List Addr) (pn : List (Addr × Obj)), Room k A → PE (gcx X A s H scope (genEnv scope (cloFrom X.env.cells scope.names []) C code builtinsNs X.env) fp pn) elt te)
    (hs : ∀ v, genFold iter X.env v = pure v) (I : Inv X pins σ H s) (h : tGx P wi g tt te (own.map (·.2)) stop En σ H) :
    wpAny (model X.prog X.w) X.A (eval (.GeneratorExp elt [⟨tg, iter, ifs, 0⟩] scope pos) X.env) (GxMade X pins σ k stop En) X.xe s := by
  have hfree : ∀ y ∈ scope.names, y.2 = .free → ∃ c, X.env.cells.lookup y.1 = some c := fun y hy e => by
    rcases ok.free y hy e with k | k
    · exact I.ok.has _ (.inl k)
    · exact I.ok.has _ (.inr k)
  refine wpAny_GeneratorExp_make hco (closure_ok hfree) hnc hdot ok.kind (by have := hr.dp; omega) ?_ hs
  refine thn (hi.run pins s σ H _ I h) fun xv s1 hx => thn hx fun itv s2 h2 => ?_
  obtain ⟨it, fp, tn, J, H2, e, I2, T, st2, f2, ⟨ps, hP, htr⟩, hW⟩ := h2
  subst e
  have hP2 : s2.heap.get? P = some { cls := .none, data := .fields ps } := I2.hok P _ hP
  have cd : PySem.W.CodeHd s2.heap c P := TB.code.keeps I2.bk
  have sz : ∀ b ∈ fp, b < s2.heap.objs.size := fun b hb => by
    obtain ⟨o, e, _⟩ := T.obj _ _ st2 b hb
    exact Heap.lt_size e
  have nP : ∀ b, H2 b = none → b ≠ P := fun b e z => by rw [z, hP] at e; cases e
  have cont : ∀ (code : Value) (h3 : Heap) (tk : Nat) (ps' : Array Value), Heap.ExtBut P s2.heap h3 → s2.heap.objs.size ≤ h3.objs.size → h3.get? P = some { cls := .none, data := .fields ps' } → (∃ more, ps' = ps ++ more) → TriplesOk ps'.toList →
      wpAny (model X.prog X.w) X.A (builtinsFor X.env.globals X.env.builtins) (fun bi s₄ =>
        ∀ h', h'.Ns s₄.heap.objs.size (fun y => if y = ".0" then some (.ref it) else none) → Heap.SameBut s₄.heap.objs.size (s₄.heap.push { cls := .type "frame", data := .dict #[] }) h' →
          GxMade X pins σ k stop En (.ref h'.objs.size) { s₄ with
            gens := s₄.gens.push (.fresh (.compStart (.GeneratorExp elt [⟨tg, iter, ifs, 0⟩] scope pos) 0 (.ref it) .none (genEnv scope (cloFrom X.env.cells scope.names []) s₄.heap.objs.size code bi X.env))),
            toks := s₄.toks + 1 + 1 + 1,
            heap := h'.push { cls := .type "generator", data := .fields #[.int s₄.gens.size 0, .str "<genexpr>" (s₄.toks + 1), .str (X.env.qual ++ "<genexpr>") (s₄.toks + 1 + 1)] } }) X.xe { s2 with heap := h3, toks := tk } := by
    intro code h3 tk ps' hx hsz hP3 hmore ht3
    obtain ⟨more, em⟩ := hmore
    obtain ⟨bm, ob, e1, e2, e3, e4, e5, e6, e7, e8⟩ := TB.bm
    have keep3 : ∀ b u, b ≠ P → s2.heap.get? b = some u → h3.get? b = some u := fun b u hb e => hx b u hb e
    refine wpAny_builtinsFor (m := X.mg) (by rw [I2.ok.glob]; exact (I2.mod.glob.keeps I2.bk).extBut hx TB.gP) e1 e2 (keep3 _ _ e4 (I2.bk _ _ e5)) e6 e7 e8 ?_
    have I4 : Inv X pins σ (upd H2 P (.tbl (ps ++ more))) { s2 with heap := h3, toks := tk } := GxR.inv_tab (more := more) (h' := h3) (g' := s2.gens) (d' := s2.drawn) (t' := tk) I2 hP keep3 (by rw [← em]; exact hP3) I2.bare
    have f4 : ∀ b ∈ fp, FpOk X pins (upd H2 P (.tbl (ps ++ more))) b ∧ b < h3.objs.size := fun b hb => by
      refine ⟨⟨?_, (f2 b hb).2⟩, Nat.lt_of_lt_of_le (sz b hb) hsz⟩
      rw [upd_ne (nP b (f2 b hb).1)]
      exact (f2 b hb).1
    have st4 : tn 0 h3 := T.keep _ _ _ st2 fun b hb o e => keep3 b o (nP b (f2 b hb).1) e
    obtain ⟨W, ⟨m0, w0⟩, turn⟩ := hW (upd H2 P (.tbl (ps ++ more))) ⟨⟨ps ++ more, upd_same, by rw [← em]; exact ht3⟩, fun b hb => upd_ne hb⟩
    generalize hH4 : upd H2 P (.tbl (ps ++ more)) = H4 at I4 f4 w0
    intro h' hn' hs'
    generalize hs4 : ({ s2 with heap := h3, toks := tk } : Shared) = s4 at I4 hn' hs' ⊢
    have e4h : s4.heap = h3 := by rw [← hs4]
    rw [← e4h] at f4 st4
    have hszz : h'.objs.size = s4.heap.objs.size + 1 := by rw [hs'.1, Heap.size_push]
    have keep' : ∀ b o, s4.heap.get? b = some o → h'.get? b = some o := fun b o e => hs'.extBut b o (Nat.ne_of_lt (Heap.lt_size e)) (Heap.get?_push_of_some _ e)
    have main : ∀ (go : Obj) (nm qn : Value) (tk2 : Nat), go.cls = .type "generator" → go.data = .fields #[.int s4.gens.size 0, nm, qn] → go.slots = #[] → (∀ h : Heap, (h.push go).get? h.objs.size = some go) →
        GxMade X pins σ k stop En (.ref h'.objs.size) { s4 with gens := s4.gens.push (.fresh (.compStart (.GeneratorExp elt [⟨tg, iter, ifs, 0⟩] scope pos) 0 (.ref it) .none (genEnv scope (cloFrom X.env.cells scope.names []) s4.heap.objs.size code builtinsNs X.env))), toks := tk2, heap := h'.push go } := by
      intro go nm qn tk2 hgc hgd0 hgs hgp
      have hgen : ∀ h : Heap, h.get? h'.objs.size = some go → h.IsGen h'.objs.size s4.gens.size := fun h e => ⟨go, nm, qn, e, hgc, hgd0, hgs⟩
      have hpushed : (h'.push go).get? h'.objs.size = some go := hgp _
      have bare5 : AllBare (s4.gens.push (.fresh (.compStart (.GeneratorExp elt [⟨tg, iter, ifs, 0⟩] scope pos) 0 (.ref it) .none (genEnv scope (cloFrom X.env.cells scope.names []) s4.heap.objs.size code builtinsNs X.env)))) := AllBare.push I4.bare rfl
      have keep5 : ∀ b o, s4.heap.get? b = some o → (h'.push go).get? b = some o := fun b o e => Heap.get?_push_of_some _ (keep' b o e)
      have I5 : Inv X pins σ H4 { s4 with gens := s4.gens.push (.fresh (.compStart (.GeneratorExp elt [⟨tg, iter, ifs, 0⟩] scope pos) 0 (.ref it) .none (genEnv scope (cloFrom X.env.cells scope.names []) s4.heap.objs.size code builtinsNs X.env))), toks := tk2, heap := h'.push go } :=
        I4.call' (ch := []) rfl (Un.kept keep5) (I4.hok.kept keep5) bare5 fun b z => by simp at z
      refine ⟨h'.objs.size, s4.gens.size, _, H4, rfl, by show _ < (h'.push go).objs.size; rw [Heap.size_push]; exact Nat.lt_succ_self _, hgen _ hpushed, Array.getElem?_push_size .., I5, ?_⟩
      intro A κ s6 hrm hfrm hyoung hk6 hκ hos hba
      have hk6' : ∀ b o, s4.heap.get? b = some o → s6.heap.get? b = some o := fun b o e => hk6 b o (keep5 b o e)
      generalize hce : genEnv scope (cloFrom X.env.cells scope.names []) s4.heap.objs.size code builtinsNs X.env = ce at *
      have I6 := gen_start (m := fun y => if y = ".0" then some (.ref it) else none) (h' := h'.push go) (G := I5.bare |> fun _ => s4.gens) (tk := tk2) (code := code) (A := A.deeper ce) I4 ok hnc hN f4 (hn'.push _) keep5 I4.bare (by rw [hce]; exact Around.frames_deeper hfrm) hrm.hd
      rw [hce] at I6
      have I7 : Inv (gcx X (A.deeper ce) s4 H4 scope ce fp []) [] (wipe σ (own.map (·.2))) H4 s6 :=
        I6.call' (ch := []) hos (Un.kept fun b o e => hk6 b o e) (I6.hok.kept fun b o e => hk6 b o e) hba fun b z => by simp at z
      obtain ⟨ps0, hC0, hp0⟩ := hκ
      have ceL : ce.locals = s4.heap.objs.size := by rw [← hce]; rfl
      have young : ∀ b, h'.objs.size ≤ b → H4 b = none ∧ b ≠ ce.locals ∧ b ∉ frs X.stack ∧ s4.heap.objs.size ≤ b ∧ ∀ y c, ce.cells.lookup y = some c → c ≠ b := fun b hb => by
        have hb4 : s4.heap.objs.size < b := by omega
        refine ⟨I4.hok.fresh (Nat.le_of_lt hb4), by rw [ceL]; exact Nat.ne_of_gt hb4, fun z => ?_, Nat.le_of_lt hb4, fun y c e z => ?_⟩
        · rcases List.mem_cons.mp (I4.stkSub b z) with z | z
          · have := I4.lt
            rw [← z] at this
            exact absurd (Nat.lt_trans this hb4) (Nat.lt_irrefl _)
          · exact I4.nofs (Nat.le_of_lt hb4) z
        · obtain ⟨v, hv⟩ := I6.cell y c e
          have e9 : ce.cells = cloFrom X.env.cells scope.names [] := by rw [← hce]; rfl
          rw [e9] at e
          rcases cloFrom_mem (PySem.mem_of_lookup e) with q | ⟨q1, q2⟩
          · cases q
          · obtain ⟨c0, hc0⟩ := hfree _ q1 rfl
            rw [hc0] at q2
            have q2 : c = c0 := q2
            subst q2
            obtain ⟨v0, z0⟩ := I4.cell _ _ hc0
            have := z0.lt
            rw [z] at this
            exact absurd (Nat.lt_trans this hb4) (Nat.lt_irrefl _)
      have hgd : ∀ v, go.data ≠ .cell v := fun v q => by rw [hgd0] at q; cases q
      have young5 : ∀ b ∈ κ.as, h'.objs.size < b := fun b hb => by
        have z : (h'.push go).objs.size ≤ b := hyoung b hb
        rw [Heap.size_push] at z
        exact z
      have hG : GIk (gcx X (A.deeper ce) s4 H4 scope ce fp [(h'.objs.size, go)]) κ [] [] (wipe σ (own.map (·.2))) H4 s6 := by
        refine ⟨ps0, hC0, ?_⟩
        rw [List.append_nil]
        refine inv_pinnedX I7 fun p hp => ?_
        rcases List.mem_append.mp hp with z | z
        · rw [List.mem_singleton.mp z]
          obtain ⟨y1, y2, y3, _, _⟩ := young h'.objs.size (Nat.le_refl _)
          exact ⟨hk6 _ _ hpushed, y1, y2, y3, hgd⟩
        · obtain ⟨y1, y2, y3, _, _⟩ := young p.1 (Nat.le_of_lt (young5 _ (κ.mem hC0 z)))
          exact ⟨hp0 p z, y1, y2, y3, κ.nc _ _ hC0 p z⟩
      have back : ∀ {ps : List (Addr × Obj)} {σ' : L2.St} {H' : Hp} {s' : Shared}, Inv (gcx X (A.deeper ce) s4 H4 scope ce fp [(h'.objs.size, go)]) ps σ' H' s' → Inv X pins σ H' s' ∧ s'.heap.IsGen h'.objs.size s4.gens.size := fun {ps σ' H' s'} J =>
        ⟨I4.call' (ch := fp) J.os J.base J.hok J.bare fun b hb => ⟨(f4 b hb).1.2.2.2.1, (f4 b hb).1.2.1, (f4 b hb).1.2.2.2.2.1, (f4 b hb).1.2.2.2.2.2⟩,
          hgen _ (J.pin (h'.objs.size, go) (List.mem_append_left _ (List.mem_singleton.mpr rfl))).1⟩
      have pinB : ∀ {ps ip : List (Addr × Obj)} {σ' : L2.St} {H' : Hp} {s' : Shared}, Inv (gcx X (A.deeper ce) s4 H4 scope ce fp [(h'.objs.size, go)]) (ps ++ ip) σ' H' s' → ∀ p ∈ ps, s'.heap.get? p.1 = some p.2 ∧ H' p.1 = none := fun {ps ip σ' H' s'} J p hp =>
        let z := J.pin p (List.mem_append_right _ (List.mem_append_left _ hp))
        ⟨z.1, z.2.1⟩
      have st6 : tn 0 s6.heap := T.keep _ _ _ st4 fun b _ o e => hk6' b o e
      have rm := hrm.room ce
      have pg := hg (A.deeper ce) s4 H4 s4.heap.objs.size code fp [(h'.objs.size, go)] rm
      have pt := ht (A.deeper ce) s4 H4 s4.heap.objs.size code fp [(h'.objs.size, go)] rm
      have pe := he (A.deeper ce) s4 H4 s4.heap.objs.size code fp [(h'.objs.size, go)] rm
      rw [hce] at pg pt pe
      have hcoE : ce.scope.isCoroutine = false := by rw [← hce]; exact hco
      have sg := seg_gx_start (X := gcx X (A.deeper ce) s4 H4 scope ce fp [(h'.objs.size, go)]) (κ := κ) (A := A) (pos := pos) (scope := scope) (iter := iter) (stop := stop) (En := En) (s₀ := s6) rfl rfl hcoE over_gen
        (fun p hp => by rw [List.mem_singleton.mp hp]; exact fun z => Nat.lt_irrefl _ (young5 _ z)) (fun S hS => by
          obtain ⟨_, y2, _, y4, y5⟩ := young S (Nat.le_of_lt (young5 S hS))
          exact ⟨y4, y2, y5⟩) (fun b hb z => Nat.lt_irrefl _ (Nat.lt_trans (Nat.lt_of_lt_of_le (f4 b hb).2 (by rw [hszz]; exact Nat.le_succ _)) (young5 b z))) (fun b hb => hb) (fun p hp b hb => by rw [List.mem_singleton.mp hp]; exact fun z => Nat.lt_irrefl _ (Nat.lt_of_lt_of_le (f4 b hb).2 (by have z : h'.objs.size = b := z; rw [← z, hszz]; exact Nat.le_succ _)))
        T pg pt pe turn w0 st6 (fun b hb => (f4 b hb).1.1) hG (fun _ _ => rfl)
      refine seg_imp (R := GRk (gcx X (A.deeper ce) s4 H4 scope ce fp [(h'.objs.size, go)]) κ En) (Y := GYk (gcx X (A.deeper ce) s4 H4 scope ce fp [(h'.objs.size, go)]) κ stop En) (fun n s₀ r s1' hR => ?_) (fun n s₀ v s1' kap kap' hkk hY => ?_) sizeLine sg
      · obtain ⟨hr1, us, ys, σ', H', hl, rv, ⟨ps1, hC1, J⟩, h0, hE⟩ := hR
        exact ⟨hr1, ⟨us, ys, H', hl, rv, (back J).1, ⟨ps1, hC1, pinB J⟩, hE⟩, h0⟩
      · obtain ⟨us, ys, y, ip, σ', H', hn, rv, r1, ⟨ps1, hC1, J⟩, h0, h1, h2⟩ := hY
        exact ⟨us, ys, y, H', hn, rv, r1, (back J).1, (back J).2, ⟨ps1, hC1, pinB J⟩, h0, h1, fun hsp s' z => hkk _ _ (h2 hsp s' z)⟩
    exact main _ _ _ _ rfl rfl rfl fun h => Heap.get?_push_size _ rfl
  refine ⟨I2.nolimit, ?_⟩
  cases hf : codeAmong pos ps.toList with
  | none =>
    refine wpAny_genexprCodeX hcode (cd.code hP2 htr) (cd.tab hP2) hf fun c' h' tk hx hge hlt hco' _ htab' _ => ?_
    obtain ⟨o1, vs, f1, tf, fl, tg, inF, tx, tt, op, _, _, _, _, _, _, _, _, _, htr, _⟩ := hco'
    exact cont _ h' tk _ hx (Nat.le_trans hge (Nat.le_of_lt hlt)) htab'.2 ⟨_, rfl⟩ htr
  | some cv =>
    refine wpAny_genexprCode_hit hcode (cd.code hP2 htr) hf ?_
    exact cont cv s2.heap s2.toks ps (Heap.ExtBut.refl _ _) (Nat.le_refl _) hP2 ⟨#[], by simp⟩ htr
end
end Kp

/-! Kg, part C: what takes a generator: all, any. Own work. -/
namespace Kp
open PySem PySem.Spec PyProof.Rows L2 GenW

section
variable {X : Cx} {pins : List (Addr × Obj)} {σ : L2.St} {H : Hp} {s : Shared} {k : Nat} {Q : VK} {E : Value → Shared → Prop}
theorem inv_setGen {g : Nat} {x : GenState} (I : Inv X pins σ H s) (hb : x.bare = true) : Inv X pins σ H (s.setGen g x) :=
  I.call' (ch := []) rfl Un.refl I.hok (allBare_setGen I.bare hb) fun b z => by simp at z
theorem roomG_of {A : Around} (h : Room (k + 1) X.A) (j : Nat) (hj : j ≤ 12) (hd : A.handled = X.A.handled) (hp : A.depth = X.A.depth) (hu : A.units = X.A.units + j) : RoomG k A :=
  ⟨by rw [hd]; exact h.hd, by rw [hp]; have := h.dp; omega, by rw [hu]; have := h.un; omega⟩

/-! ### all, any -/
def kNo (u : Value) : Kon := ⟨[], fun us ps => ps = [] ∧ ∀ x ∈ us, x = u, fun us ps h => by rw [h.1]; rfl, fun us ps h p hp => by rw [h.1] at hp; cases hp⟩
def stopB (c : Bool) (y : V) : Bool := !decide (y = .bl c)
def EnB (c : Bool) (Q : VK) (ys : List V) (H : Hp) : Prop := ((∀ y ∈ ys, y = .bl c) ∧ Q (.bl c) H) ∨ ∃ l, ys = l ++ [.bl (!c)] ∧ Q (.bl (!c)) H
theorem stopB_t {c : Bool} {y : V} (h : stopB c y = false) : y = .bl c := by
  unfold stopB at h
  simpa using h
theorem stopB_f {c : Bool} {y : V} (h : y ≠ .bl c) : stopB c y = true := by
  unfold stopB
  simpa using h
theorem sl_no {u : Value} {us : List Value} {s : Shared} {g : Nat} {x : GenState} (hb : AllBare s.gens) (hx : x.bare = true) : Sl (kNo u) us u s (s.setGen g x) :=
  ⟨rfl, allBare_setGen hb hx, fun _ _ _ h => h, fun ps h _ => ⟨[], ⟨rfl, by
    intro y hy
    rcases List.mem_append.mp hy with z | z
    · exact h.2 y z
    · exact List.mem_singleton.mp z⟩, fun p hp => by cases hp⟩⟩
theorem Vals.bools {c : Bool} {ys : List V} {us : List Value} (r : Vals ys us) (h : ∀ x ∈ us, x = .bool c) : ∀ y ∈ ys, y = .bl c := by
  induction r with
  | nil => intro y hy; cases hy
  | cons r0 r ih =>
    rename_i a b l1 l2
    intro y hy
    rcases List.mem_cons.mp hy with z | z
    · subst z
      have e := h b List.mem_cons_self
      subst e
      exact RelV.inj r0 (show RelV (.bl c) (.bool c) from rfl)
    · exact ih (fun x hx => h x (List.mem_cons_of_mem _ hx)) y z

theorem all_drain {A : Around} {R : Result → Shared → Prop} {a : Addr} {g : Nat} (hh : A.handled = none) (hd : A.depth < recursionLimit) (hR : ∀ u s', EP X pins σ Q u s' → R (.ok (.ret u)) s') : ∀ (m : Nat) (s : Shared), s.heap.IsGen a g → s.heap.NoLimit →
    (∃ gs, s.gens[g]? = some gs ∧ gs.Goes (model X.prog X.w) A.in1.in1 (XR X pins σ (kNo (.bool true)) (EnB true Q)) (XY X pins σ a g (kNo (.bool true)) (stopB true) (EnB true Q)) m (.send .none) (s.setGen g .running)) →
    codeAny (model X.prog X.w) A (.builtin "all.loop" ⟨[.ref a], []⟩) R s := by
  intro m
  induction m using Nat.strongRecOn with
  | ind m ih =>
    intro s hg hl ⟨gs, hgs, hgo⟩
    have hgl : g < s.gens.size := (Array.getElem?_eq_some_iff.mp hgs).1
    refine codeAny_builtin F.entry_all_loop ?_
    rw [Around.under_plainId F.plain_all_loop _]
    show wpAny _ A.in1 (pyNext (.ref a) >>= _) _ _ s
    refine wpAny_bind (wpAny_gsz (n := g + 1) hgl (wpAny_pyNext_genexpQ (P := fun _ s₀ s₁ => XP X pins σ (kNo (.bool true)) (EnB true Q) s₁ ∧ ∀ b ∈ (kNo (.bool true)).as, s₀.heap.get? b = s₁.heap.get? b) (A := A.in1) hh hl hd hg hgs hgo (fun v s₁ gs' hb hv => ?_) (fun s₁ hp h' hk => ?_)))
    · intro hsz
      obtain ⟨us, ys, y, H', hn, rv, r1, I1, hg1, ⟨ps, hC, _⟩, _, hst, hno⟩ := hv
      have hsz1 : g < s₁.gens.size := by
        have q : (s₁.setGen g gs').gens.size = s₁.gens.size := setGen_size _ _ _
        have hsz' : g + 1 ≤ (s₁.setGen g gs').gens.size := hsz
        omega
      by_cases hy : y = .bl true
      · subst hy
        obtain rfl : v = Value.bool true := r1
        refine wpAny_bind (wpAny_holding (wpAny_truthy_bool ?_))
        refine wpAny_bind (wpAny_letGo ?_)
        simp only [if_true, Bool.false_eq_true, if_false]
        have hk := hno (by simp [stopB])
        cases m with
        | zero => exact (hk _ (sl_no (g := g) (x := gs') I1.bare hb)).elim
        | succ m =>
          refine wpAny_pure ⟨plainId_quiet F.plain_all_loop _, ih m (Nat.lt_succ_self _) _ hg1 I1.nolimit ⟨gs', setGen_at hsz1, ?_⟩⟩
          have z := hk ((s₁.setGen g gs').setGen g .running) ⟨rfl, allBare_setGen (allBare_setGen I1.bare hb) rfl, fun _ _ _ h => h, fun ps h _ => ⟨[], ⟨rfl, by
            intro y hy
            rcases List.mem_append.mp hy with z | z
            · exact h.2 y z
            · exact List.mem_singleton.mp z⟩, fun p hp => by cases hp⟩⟩
          exact z
      · rcases hst (stopB_f hy) with ⟨h1, _⟩ | ⟨l, h1, hq⟩
        · exact absurd (h1 y (by simp)) hy
        · have e2 : y = .bl false := by
            have := congrArg List.getLast? h1
            simpa using this
          subst e2
          obtain rfl : v = Value.bool false := r1
          refine wpAny_bind (wpAny_holding (wpAny_truthy_bool ?_))
          refine wpAny_bind (wpAny_letGo ?_)
          simp only [if_true, Bool.false_eq_true, if_false]
          refine wpAny_bind (wpAny_rule (wpAny_pure (hR _ _ ⟨.bl false, H', inv_setGen I1 hb, rfl, hq⟩)))
    · intro hsz
      obtain ⟨⟨us, ys, H', hn, rv, I1, ⟨ps, hC, _⟩, hE⟩, _⟩ := hp
      have hall := Vals.bools rv hC.2
      rcases hE with ⟨_, hq⟩ | ⟨l, h1, hq⟩
      · refine wpAny_bind (wpAny_rule (wpAny_pure (hR _ _ ⟨.bl true, H', ?_, rfl, hq⟩)))
        exact (inv_setGen I1 (g := g) (x := .finished) rfl).call' (ch := []) rfl (Un.kept hk) (I1.hok.kept hk) (allBare_setGen I1.bare rfl) fun b z => by simp at z
      · have := hall (.bl false) (by rw [h1]; simp)
        cases this
theorem call_all_gx {u : Value} (hr : Room (k + 1) X.A) (h : GxMade X pins σ k (stopB true) (EnB true Q) u s) : wpAny (model X.prog X.w) X.A (call (.builtin "all") [u]) (EP X pins σ Q) E s := by
  obtain ⟨a, g, cd, H1, rfl, ha, hg, hgs, I1, wake⟩ := h
  refine call_function_tree F.kind_all F.plain_all F.entry_all (F.args_all1 _) ?_
  unfold Builtin.«all»
  refine wpAny_bind (m := oneArg "all" _) (wpAny_pure ?_)
  refine wpAny_bind (wpAny_pyIter_gen hg ?_)
  refine wpAny_pure ⟨plainId_quiet F.plain_all_loop _, all_drain hr.hd (by have := hr.dp; show X.A.depth < _; omega) (fun u s' h => h) sizeLine s hg I1.nolimit ⟨_, hgs, rfl, ?_⟩⟩
  refine wake _ (kNo (.bool true)) _ (roomG_of hr 2 (by decide) rfl rfl rfl) I1.ok.frames (fun b hb => by cases hb) (fun _ _ h => h) ⟨[], ⟨rfl, fun x hx => by cases hx⟩, fun p hp => by cases hp⟩ rfl (allBare_setGen I1.bare rfl)

theorem any_drain {A : Around} {R : Result → Shared → Prop} {a : Addr} {g : Nat} (hh : A.handled = none) (hd : A.depth < recursionLimit) (hR : ∀ u s', EP X pins σ Q u s' → R (.ok (.ret u)) s') : ∀ (m : Nat) (s : Shared), s.heap.IsGen a g → s.heap.NoLimit →
    (∃ gs, s.gens[g]? = some gs ∧ gs.Goes (model X.prog X.w) A.in1.in1 (XR X pins σ (kNo (.bool false)) (EnB false Q)) (XY X pins σ a g (kNo (.bool false)) (stopB false) (EnB false Q)) m (.send .none) (s.setGen g .running)) →
    codeAny (model X.prog X.w) A (.builtin "any.loop" ⟨[.ref a], []⟩) R s := by
  intro m
  induction m using Nat.strongRecOn with
  | ind m ih =>
    intro s hg hl ⟨gs, hgs, hgo⟩
    have hgl : g < s.gens.size := (Array.getElem?_eq_some_iff.mp hgs).1
    refine codeAny_builtin F.entry_any_loop ?_
    rw [Around.under_plainId F.plain_any_loop _]
    show wpAny _ A.in1 (pyNext (.ref a) >>= _) _ _ s
    refine wpAny_bind (wpAny_gsz (n := g + 1) hgl (wpAny_pyNext_genexpQ (P := fun _ s₀ s₁ => XP X pins σ (kNo (.bool false)) (EnB false Q) s₁ ∧ ∀ b ∈ (kNo (.bool false)).as, s₀.heap.get? b = s₁.heap.get? b) (A := A.in1) hh hl hd hg hgs hgo (fun v s₁ gs' hb hv => ?_) (fun s₁ hp h' hk => ?_)))
    · intro hsz
      obtain ⟨us, ys, y, H', hn, rv, r1, I1, hg1, ⟨ps, hC, _⟩, _, hst, hno⟩ := hv
      have hsz1 : g < s₁.gens.size := by
        have q : (s₁.setGen g gs').gens.size = s₁.gens.size := setGen_size _ _ _
        have hsz' : g + 1 ≤ (s₁.setGen g gs').gens.size := hsz
        omega
      by_cases hy : y = .bl false
      · subst hy
        obtain rfl : v = Value.bool false := r1
        refine wpAny_bind (wpAny_holding (wpAny_truthy_bool ?_))
        refine wpAny_bind (wpAny_letGo ?_)
        simp only [if_true, Bool.false_eq_true, if_false]
        have hk := hno (by simp [stopB])
        cases m with
        | zero => exact (hk _ (sl_no (g := g) (x := gs') I1.bare hb)).elim
        | succ m =>
          refine wpAny_pure ⟨plainId_quiet F.plain_any_loop _, ih m (Nat.lt_succ_self _) _ hg1 I1.nolimit ⟨gs', setGen_at hsz1, ?_⟩⟩
          have z := hk ((s₁.setGen g gs').setGen g .running) ⟨rfl, allBare_setGen (allBare_setGen I1.bare hb) rfl, fun _ _ _ h => h, fun ps h _ => ⟨[], ⟨rfl, by
            intro y hy
            rcases List.mem_append.mp hy with z | z
            · exact h.2 y z
            · exact List.mem_singleton.mp z⟩, fun p hp => by cases hp⟩⟩
          exact z
      · rcases hst (stopB_f hy) with ⟨h1, _⟩ | ⟨l, h1, hq⟩
        · exact absurd (h1 y (by simp)) hy
        · have e2 : y = .bl true := by
            have := congrArg List.getLast? h1
            simpa using this
          subst e2
          obtain rfl : v = Value.bool true := r1
          refine wpAny_bind (wpAny_holding (wpAny_truthy_bool ?_))
          refine wpAny_bind (wpAny_letGo ?_)
          simp only [if_true, Bool.false_eq_true, if_false]
          refine wpAny_bind (wpAny_rule (wpAny_pure (hR _ _ ⟨.bl true, H', inv_setGen I1 hb, rfl, hq⟩)))
    · intro hsz
      obtain ⟨⟨us, ys, H', hn, rv, I1, ⟨ps, hC, _⟩, hE⟩, _⟩ := hp
      have hall := Vals.bools rv hC.2
      rcases hE with ⟨_, hq⟩ | ⟨l, h1, hq⟩
      · refine wpAny_bind (wpAny_rule (wpAny_pure (hR _ _ ⟨.bl false, H', ?_, rfl, hq⟩)))
        exact (inv_setGen I1 (g := g) (x := .finished) rfl).call' (ch := []) rfl (Un.kept hk) (I1.hok.kept hk) (allBare_setGen I1.bare rfl) fun b z => by simp at z
      · have := hall (.bl true) (by rw [h1]; simp)
        cases this
theorem call_any_gx {u : Value} (hr : Room (k + 1) X.A) (h : GxMade X pins σ k (stopB false) (EnB false Q) u s) : wpAny (model X.prog X.w) X.A (call (.builtin "any") [u]) (EP X pins σ Q) E s := by
  obtain ⟨a, g, cd, H1, rfl, ha, hg, hgs, I1, wake⟩ := h
  refine call_function_tree F.kind_any F.plain_any F.entry_any (F.args_any1 _) ?_
  unfold Builtin.«any»
  refine wpAny_bind (m := oneArg "any" _) (wpAny_pure ?_)
  refine wpAny_bind (wpAny_pyIter_gen hg ?_)
  refine wpAny_pure ⟨plainId_quiet F.plain_any_loop _, any_drain hr.hd (by have := hr.dp; show X.A.depth < _; omega) (fun u s' h => h) sizeLine s hg I1.nolimit ⟨_, hgs, rfl, ?_⟩⟩
  refine wake _ (kNo (.bool false)) _ (roomG_of hr 2 (by decide) rfl rfl rfl) I1.ok.frames (fun b hb => by cases hb) (fun _ _ h => h) ⟨[], ⟨rfl, fun x hx => by cases hx⟩, fun p hp => by cases hp⟩ rfl (allBare_setGen I1.bare rfl)
end
end Kp

/-! Kg, part D: what takes a generator: sum, tuple. Own work. -/
namespace Kp
open PySem PySem.Spec PyProof.Rows L2 GenW

section
variable {X : Cx} {pins : List (Addr × Obj)} {σ : L2.St} {H : Hp} {s : Shared} {k : Nat} {Q : VK} {E : Value → Shared → Prop}
abbrev oneObj (v : Value) (c : Nat) : Obj := { cls := .type "list", dict := none, data := .seq #[v] c, slots := #[] }
def kSum (S : Addr) : Kon := ⟨[S], fun us ps => ∃ (ns : List Int) (t : Tok) (c : Nat), Vals (ns.map V.int) us ∧ ps = [(S, oneObj (.int ns.sum t) c)],
  fun us ps h => by obtain ⟨_, _, _, _, rfl⟩ := h; rfl, fun us ps h p hp => by
    obtain ⟨_, _, _, _, rfl⟩ := h
    rw [List.mem_singleton.mp hp]
    intro v e
    cases e⟩
def isI : V → Bool
  | .int _ => true
  | _ => false
def stopI (y : V) : Bool := !isI y
def EnI (Q : VK) (ys : List V) (H : Hp) : Prop := ∃ ns : List Int, ys = ns.map V.int ∧ Q (.int ns.sum) H
theorem int_last {l : List V} {y : V} {ns : List Int} (h : l ++ [y] = ns.map V.int) : ∃ i, y = .int i := by
  have h1 : y ∈ ns.map V.int := by rw [← h]; simp
  obtain ⟨i, _, e⟩ := List.mem_map.mp h1
  exact ⟨i, e.symm⟩
theorem sum_snoc {ns : List Int} {i : Int} : (ns ++ [i]).sum = ns.sum + i := by simp
theorem sl_one {S : Addr} {us : List Value} {ns : List Int} {i : Int} {t0 t1 t2 : Tok} {c c' : Nat} {s s' : Shared} (rv : Vals (ns.map V.int) us) (hS : s.heap.get? S = some (oneObj (.int ns.sum t0) c)) (ho : s'.os = s.os) (hb : AllBare s'.gens)
    (hk : ∀ b o, b ≠ S → s.heap.get? b = some o → s'.heap.get? b = some o) (hS' : s'.heap.get? S = some (oneObj (.int (ns.sum + i) t1) c')) : Sl (kSum S) us (.int i t2) s s' :=
  ⟨ho, hb, fun b o hn e => hk b o (fun z => hn (List.mem_singleton.mpr z)) e, fun ps _ _ => ⟨[(S, oneObj (.int (ns.sum + i) t1) c')], ⟨ns ++ [i], t1, c', by
    rw [List.map_append]
    exact rv.append (.cons ⟨t2, rfl⟩ .nil), by rw [sum_snoc]⟩, fun p hp => by rw [List.mem_singleton.mp hp]; exact hS'⟩⟩
theorem sum_drain {A : Around} {R : Result → Shared → Prop} {a S : Addr} {g : Nat} (hh : A.handled = none) (hd : A.depth < recursionLimit) (hSa : S ≠ a) (hSc : S ≠ cStatics) (hR : ∀ u s', EP X pins σ Q u s' → R (.ok (.ret u)) s') : ∀ (m : Nat) (st : Int), (st = 0 ∨ st = 2) → ∀ (s : Shared), s.heap.IsGen a g → s.heap.NoLimit →
    (∃ (ns : List Int) (t : Tok) (c : Nat), s.heap.get? S = some (oneObj (.int ns.sum t) c)) →
    (∃ gs, s.gens[g]? = some gs ∧ gs.Goes (model X.prog X.w) A.in1.in1 (XR X pins σ (kSum S) (EnI Q)) (XY X pins σ a g (kSum S) stopI (EnI Q)) m (.send .none) (s.setGen g .running)) →
    codeAny (model X.prog X.w) A (.builtin "sum.loop" ⟨[.ref a, .ref S, rawInt st, rawInt 0], []⟩) R s := by
  intro m
  induction m using Nat.strongRecOn with
  | ind m ih =>
    intro st hst2 s hg hl ⟨ns0, t0, c0, hS0⟩ ⟨gs, hgs, hgo⟩
    have hgl : g < s.gens.size := (Array.getElem?_eq_some_iff.mp hgs).1
    refine codeAny_builtin F.entry_sum_loop ?_
    rw [Around.under_plainId F.plain_sum_loop _]
    show wpAny _ A.in1 (seqItems? (.ref S) >>= _) _ _ s
    refine wpAny_bind (wpAny_seqItems hS0 rfl ?_)
    show wpAny _ A.in1 (tryCatch (pyNext (.ref a)) _ >>= _) _ _ s
    refine wpAny_bind (wpAny_tryCatch (wpAny_gsz (n := g + 1) hgl (wpAny_pyNext_genexpQ (P := fun _ s₀ s₁ => XP X pins σ (kSum S) (EnI Q) s₁ ∧ ∀ b ∈ (kSum S).as, s₀.heap.get? b = s₁.heap.get? b) (A := A.in1) hh hl hd hg hgs hgo (fun v s₁ gs' hb hv => ?_) (fun s₁ hp h' hk => ?_))))
    · intro hsz
      obtain ⟨us, ys, y, H', hn, rv, r1, I1, hg1, ⟨ps, ⟨ns, t, c, rvn, rfl⟩, hpin⟩, h0, hst, hno⟩ := hv
      have hsz1 : g < s₁.gens.size := by
        have q : (s₁.setGen g gs').gens.size = s₁.gens.size := setGen_size _ _ _
        have hsz' : g + 1 ≤ (s₁.setGen g gs').gens.size := hsz
        omega
      obtain ⟨hS1, hSn⟩ := hpin _ (List.mem_singleton.mpr rfl)
      have hS1 : s₁.heap.get? S = some (oneObj (.int ns.sum t) c) := hS1
      have e0 : s.heap.get? S = s₁.heap.get? S := h0 S (List.mem_singleton.mpr rfl)
      rw [hS0, hS1] at e0
      have e1 : (#[Value.int ns0.sum t0] : Array Value) = #[Value.int ns.sum t] := by
        have z := congrArg Obj.data (Option.some.inj e0)
        injection z
      have e2 : ns0.sum = ns.sum ∧ t0 = t := by simpa using e1
      obtain ⟨e2, rfl⟩ := e2
      rw [e2] at hS0 ⊢
      by_cases hy : ∃ i, y = .int i
      · obtain ⟨i, rfl⟩ := hy
        obtain ⟨t2, rfl⟩ : ∃ t2, v = Value.int i t2 := r1
        have hk := hno rfl
        have cont : ∀ (st' : Int) (h3 : Heap) (tk : Nat) (t1 : Tok) (c' : Nat), (st' = 0 ∨ st' = 2) → (∀ b o, b ≠ S → s₁.heap.get? b = some o → h3.get? b = some o) → h3.get? S = some (oneObj (.int (ns.sum + i) t1) c') →
            codeAny (model X.prog X.w) A (.builtin "sum.loop" ⟨[.ref a, .ref S, rawInt st', rawInt 0], []⟩) R { s₁.setGen g gs' with heap := h3, toks := tk } := fun st' h3 tk t1 c' hst' hk3 hS3 => by
          have sl : ∀ s' : Shared, s'.os = s₁.os → AllBare s'.gens → s'.heap = h3 → Sl (kSum S) us (.int i t2) s₁ s' := fun s' a1 a2 a3 => sl_one (t1 := t1) (c' := c') rvn hS1 a1 a2 (by rw [a3]; exact hk3) (by rw [a3]; exact hS3)
          cases m with
          | zero => exact (hk { s₁.setGen g gs' with heap := h3, toks := tk } (sl _ rfl (allBare_setGen I1.bare hb) rfl)).elim
          | succ m =>
            refine ih m (Nat.lt_succ_self _) st' hst' _ ?_ ?_ ⟨ns ++ [i], t1, c', by rw [sum_snoc]; exact hS3⟩ ⟨gs', setGen_at hsz1, ?_⟩
            · obtain ⟨o, nm, qn, ho, r⟩ := hg1
              exact ⟨o, nm, qn, hk3 a o (Ne.symm hSa) ho, r⟩
            · obtain ⟨mc, hns, hnn⟩ := I1.nolimit
              exact ⟨mc, hns.at' fun o e => hk3 _ o (Ne.symm hSc) e, hnn⟩
            · have bb : AllBare (s₁.setGen g gs').gens := allBare_setGen I1.bare hb
              exact hk _ (sl _ rfl (allBare_setGen (s := { s₁.setGen g gs' with heap := h3, toks := tk }) bb rfl) rfl)
        rcases hst2 with rfl | rfl
        · show wpAny _ A.in1 (if (_ : Bool) = true then (mkInt (ns.sum + i) >>= _) else _) _ _ _
          split
          · refine wpAny_bind (wpAny_mkInt ?_)
            show wpAny _ A.in1 (updateSeq S (fun _ => #[.int (ns.sum + i) s₁.toks]) >>= _) _ _ _
            refine wpAny_bind ?_
            refine wpAny_updateSeq (s := { s₁.setGen g gs' with toks := s₁.toks + 1 }) hS1 rfl (wpAny_pure ⟨plainId_quiet F.plain_sum_loop _, ?_⟩)
            exact cont 0 _ _ s₁.toks _ (.inl rfl) (fun b o hbS e => (Heap.get?_update_other _ _ (Ne.symm hbS)).trans e) (Heap.get?_update_self _ hS1 rfl)
          · refine wpAny_bind (wpAny_rule ?_)
            refine wpAny_bind (wpAny_attempt (wpAny_holding (wpAny_add_int ?_)))
            show wpAny _ A.in1 (updateSeq S (fun _ => #[.int (ns.sum + i) s₁.toks]) >>= _) _ _ _
            refine wpAny_bind (wpAny_updateSeq (s := { s₁.setGen g gs' with toks := s₁.toks + 1 }) hS1 rfl ?_)
            have hS₂ := Heap.get?_update_self (Obj.mapSeq fun _ => #[Value.int (ns.sum + i) s₁.toks]) hS1 rfl
            refine wpAny_bind (wpAny_letGo ?_)
            refine wpAny_bind (wpAny_updateSeq hS₂ rfl (wpAny_pure ⟨plainId_quiet F.plain_sum_loop _, ?_⟩))
            exact cont 2 _ _ s₁.toks _ (.inr rfl) (fun b o hbS e => (Heap.get?_update_other _ _ (Ne.symm hbS)).trans ((Heap.get?_update_other _ _ (Ne.symm hbS)).trans e)) (Heap.get?_update_self _ hS₂ rfl)
        · show wpAny _ A.in1 ((holding [Value.int i t2] (binaryOp .Add (.int ns.sum t0) (.int i t2))).attempt >>= _) _ _ _
          refine wpAny_bind (wpAny_attempt (wpAny_holding (wpAny_add_int ?_)))
          show wpAny _ A.in1 (updateSeq S (fun _ => #[.int (ns.sum + i) s₁.toks]) >>= _) _ _ _
          refine wpAny_bind (wpAny_updateSeq (s := { s₁.setGen g gs' with toks := s₁.toks + 1 }) hS1 rfl ?_)
          have hS₂ := Heap.get?_update_self (Obj.mapSeq fun _ => #[Value.int (ns.sum + i) s₁.toks]) hS1 rfl
          refine wpAny_bind (wpAny_letGo ?_)
          refine wpAny_bind (wpAny_updateSeq hS₂ rfl (wpAny_pure ⟨plainId_quiet F.plain_sum_loop _, ?_⟩))
          exact cont 2 _ _ s₁.toks _ (.inr rfl) (fun b o hbS e => (Heap.get?_update_other _ _ (Ne.symm hbS)).trans ((Heap.get?_update_other _ _ (Ne.symm hbS)).trans e)) (Heap.get?_update_self _ hS₂ rfl)
      · have hs1 : stopI y = true := by
          unfold stopI
          cases y <;> first | rfl | exact absurd ⟨_, rfl⟩ hy
        obtain ⟨ns', e, _⟩ := hst hs1
        exact absurd (int_last e) hy
    · intro hsz
      obtain ⟨⟨us, ys, H', hn, rv, I1, ⟨ps, ⟨ns, t, c, rvn, rfl⟩, hpin⟩, ns2, e2, hq⟩, h0⟩ := hp
      obtain ⟨hS1, hSn⟩ := hpin _ (List.mem_singleton.mpr rfl)
      have hS1 : s₁.heap.get? S = some (oneObj (.int ns.sum t) c) := hS1
      have e0 : s.heap.get? S = s₁.heap.get? S := h0 S (List.mem_singleton.mpr rfl)
      rw [hS0, hS1] at e0
      have e1 : (#[Value.int ns0.sum t0] : Array Value) = #[Value.int ns.sum t] := by
        have z := congrArg Obj.data (Option.some.inj e0)
        injection z
      have e3 : ns0.sum = ns.sum ∧ t0 = t := by simpa using e1
      have e4 : ns2.map V.int = ns.map V.int := by
        rw [← e2]
        exact Vals.inj rv rvn
      have e5 : ns2 = ns := List.map_inj_right (fun a b h => V.int.inj h) |>.mp e4
      subst e5
      refine wpAny_pure (hR _ _ ⟨.int ns2.sum, H', ?_, ⟨t0, ?_⟩, hq⟩)
      · exact (inv_setGen I1 (g := g) (x := .finished) rfl).call' (ch := []) rfl (Un.kept hk) (I1.hok.kept hk) (allBare_setGen I1.bare rfl) fun b z => by simp at z
      · rw [e3.1]; rfl
theorem call_sum_gx {u : Value} (hr : Room (k + 1) X.A) (h : GxMade X pins σ k stopI (EnI Q) u s) : wpAny (model X.prog X.w) X.A (call (.builtin "sum") [u]) (EP X pins σ Q) E s := by
  obtain ⟨a, g, cd, H1, rfl, ha, hg, hgs, I1, wake⟩ := h
  have hcl : cStatics < s.heap.objs.size := let ⟨_, hn, _⟩ := I1.nolimit; hn.lt
  refine call_function_tree F.kind_sum F.plain_sum F.entry_sum (F.args_sum1 _) ?_
  unfold Builtin.«sum»
  simp only [List.length_cons, List.length_nil]
  rw [if_neg (by decide)]
  refine wpAny_bind (wpAny_of_eq (show Builtin.Builtins.bindParams "sum" ["start"] 0 { } = pure [none] from rfl) ?_)
  refine wpAny_bind (wpAny_pyIter_gen hg ?_)
  refine wpAny_bind (wpAny_mkInt ?_)
  refine wpAny_bind (wpAny_pure ?_)
  simp only [List.forIn_cons, List.forIn_nil]
  refine wpAny_bind (wpAny_bind (wpAny_bind (wpAny_isInstance (T := "int") (b := false) (typeIs_int _ _ _) PySem.sub_int_str ?_)))
  simp only [Bool.false_eq_true, if_false]
  refine wpAny_pure (wpAny_bind (wpAny_bind (wpAny_isInstance (T := "int") (b := false) (typeIs_int _ _ _) PySem.sub_int_bytes ?_)))
  simp only [Bool.false_eq_true, if_false]
  refine wpAny_pure (wpAny_bind (wpAny_bind (wpAny_isInstance (T := "int") (b := false) (typeIs_int _ _ _) PySem.sub_int_bytearray ?_)))
  simp only [Bool.false_eq_true, if_false]
  refine wpAny_pure (wpAny_pure ?_)
  refine wpAny_bind (wpAny_newObj_type ?_)
  have kp : ∀ b o, s.heap.get? b = some o → (s.heap.push (oneObj (.int 0 s.toks) 0)).get? b = some o := fun b o e => Heap.get?_push_of_some _ e
  have hS : (s.heap.push (oneObj (.int 0 s.toks) 0)).get? s.heap.objs.size = some (oneObj (.int 0 s.toks) 0) := Heap.get?_push_size _ rfl
  refine wpAny_pure ⟨plainId_quiet F.plain_sum_loop _, sum_drain (S := s.heap.objs.size) hr.hd (by have := hr.dp; show X.A.depth < _; omega) (Nat.ne_of_gt ha) (Nat.ne_of_gt hcl) (fun u s' h => h) sizeLine 0 (.inl rfl) _ (hg.keeps kp) (I1.nolimit.keeps kp) ⟨[], s.toks, 0, hS⟩ ⟨_, hgs, rfl, ?_⟩⟩
  refine wake _ (kSum s.heap.objs.size) _ (roomG_of hr 2 (by decide) rfl rfl rfl) I1.ok.frames (fun b hb => ?_) kp ⟨[(s.heap.objs.size, oneObj (.int 0 s.toks) 0)], ⟨[], s.toks, 0, .nil, rfl⟩, fun p hp => ?_⟩ rfl (allBare_setGen I1.bare rfl)
  · rw [List.mem_singleton.mp hb]; exact Nat.le_refl _
  · rw [List.mem_singleton.mp hp]; exact hS
end
end Kp

/-! Kg, part E: what takes a generator: tuple. Own work. -/
namespace Kp
open PySem PySem.Spec PyProof.Rows L2 GenW
open AutoSeq1 (wpAny_loadPart')

section
variable {X : Cx} {pins : List (Addr × Obj)} {σ : L2.St} {H : Hp} {s : Shared} {k : Nat} {Q : VK} {E : Value → Shared → Prop} {En : List V → Hp → Prop}
def kLst (S : Addr) : Kon := ⟨[S], fun us ps => ∃ c : Nat, ps = [(S, lstObj us.toArray c)],
  fun us ps h => by obtain ⟨_, rfl⟩ := h; rfl, fun us ps h p hp => by
    obtain ⟨_, rfl⟩ := h
    rw [List.mem_singleton.mp hp]
    intro v e
    cases e⟩
def stopN (_ : V) : Bool := false
theorem ext_drain {A : Around} {R : Result → Shared → Prop} {a S : Addr} {g : Nat} {res : Value} (hh : A.handled = none) (hd : A.depth < recursionLimit) (hSa : S ≠ a) (hSc : S ≠ cStatics)
    (hR : ∀ s' us ys H' c, s'.heap.get? S = some (lstObj (List.toArray us) c) → Vals ys us → us.length ≤ sizeLine → Inv X pins σ H' s' → H' S = none → En ys H' → R (.ok (.ret res)) s') : ∀ (m : Nat) (s : Shared), s.heap.IsGen a g → s.heap.NoLimit →
    (∃ gs, s.gens[g]? = some gs ∧ gs.Goes (model X.prog X.w) A.in1.in1 (XR X pins σ (kLst S) En) (XY X pins σ a g (kLst S) stopN En) m (.send .none) (s.setGen g .running)) →
    codeAny (model X.prog X.w) A (.builtin "list.extend.loop" ⟨[.ref S, .ref a, res], []⟩) R s := by
  intro m
  induction m using Nat.strongRecOn with
  | ind m ih =>
    intro s hg hl ⟨gs, hgs, hgo⟩
    have hgl : g < s.gens.size := (Array.getElem?_eq_some_iff.mp hgs).1
    refine codeAny_builtin F.entry_extend_loop ?_
    rw [Around.under_plainId F.plain_extend_loop _]
    show wpAny _ A.in1 (pyNext (.ref a) >>= _) _ _ s
    refine wpAny_bind (wpAny_gsz (n := g + 1) hgl (wpAny_pyNext_genexpQ (P := fun _ s₀ s₁ => XP X pins σ (kLst S) En s₁ ∧ ∀ b ∈ (kLst S).as, s₀.heap.get? b = s₁.heap.get? b) (A := A.in1) hh hl hd hg hgs hgo (fun v s₁ gs' hb hv => ?_) (fun s₁ hp h' hk => ?_)))
    · intro hsz
      obtain ⟨us, ys, y, H', hn, rv, r1, I1, hg1, ⟨ps, ⟨c, rfl⟩, hpin⟩, h0, hst, hno⟩ := hv
      have hsz1 : g < s₁.gens.size := by
        have q : (s₁.setGen g gs').gens.size = s₁.gens.size := setGen_size _ _ _
        have hsz' : g + 1 ≤ (s₁.setGen g gs').gens.size := hsz
        omega
      obtain ⟨hS1, hSn⟩ := hpin _ (List.mem_singleton.mpr rfl)
      have hS1 : s₁.heap.get? S = some (lstObj us.toArray c) := hS1
      have hk := hno rfl
      have hlt : us.length < sizeLine := by omega
      show wpAny _ A.in1 (updateSeq S (·.push v) >>= _) _ _ _
      refine wpAny_bind ?_
      refine wpAny_updateSeq (s := s₁.setGen g gs') hS1 rfl (wpAny_pure ⟨plainId_quiet F.plain_extend_loop _, ?_⟩) (by rw [List.size_toArray]; omega) (by show (us.toArray.push v).size ≤ sizeLine + 1; rw [Array.size_push, List.size_toArray]; omega)
      have keep3 : ∀ b o, b ≠ S → s₁.heap.get? b = some o → (s₁.heap.update S (Obj.mapSeq (·.push v))).get? b = some o := fun b o hbS e => (Heap.get?_update_other _ _ (Ne.symm hbS)).trans e
      have sl : ∀ s' : Shared, s'.os = s₁.os → AllBare s'.gens → s'.heap = s₁.heap.update S (Obj.mapSeq (·.push v)) → Sl (kLst S) us v s₁ s' := fun s' a1 a2 a3 =>
        ⟨a1, a2, fun b o hn e => by rw [a3]; exact keep3 b o (fun z => hn (List.mem_singleton.mpr z)) e, fun ps _ _ => by
          obtain ⟨c', z⟩ : ∃ c' : Nat, (s₁.heap.update S (Obj.mapSeq (·.push v))).get? S = some (lstObj (us.toArray.push v) c') := ⟨_, Heap.get?_update_self (Obj.mapSeq (·.push v)) hS1 rfl⟩
          refine ⟨[(S, lstObj (us ++ [v]).toArray c')], ⟨c', rfl⟩, fun p hp => ?_⟩
          rw [List.mem_singleton.mp hp, a3]
          refine z.trans ?_
          show some (lstObj (us.toArray.push v) c') = some (lstObj (us ++ [v]).toArray c')
          rw [List.push_toArray]⟩
      cases m with
      | zero => exact (hk { s₁.setGen g gs' with heap := s₁.heap.update S (Obj.mapSeq (·.push v)) } (sl _ rfl (allBare_setGen I1.bare hb) rfl)).elim
      | succ m =>
        refine ih m (Nat.lt_succ_self _) { s₁.setGen g gs' with heap := s₁.heap.update S (Obj.mapSeq (·.push v)) } ?_ ?_ ⟨gs', setGen_at hsz1, ?_⟩
        · obtain ⟨o, nm, qn, ho, r⟩ := hg1
          exact ⟨o, nm, qn, keep3 a o (Ne.symm hSa) ho, r⟩
        · obtain ⟨mc, hns, hnn⟩ := I1.nolimit
          exact ⟨mc, hns.at' fun o e => keep3 _ o (Ne.symm hSc) e, hnn⟩
        · have bb : AllBare (s₁.setGen g gs').gens := allBare_setGen I1.bare hb
          exact hk _ (sl _ rfl (allBare_setGen (s := { s₁.setGen g gs' with heap := s₁.heap.update S (Obj.mapSeq (·.push v)) }) bb rfl) rfl)
    · intro hsz
      obtain ⟨⟨us, ys, H', hn, rv, I1, ⟨ps, ⟨c, rfl⟩, hpin⟩, hE⟩, h0⟩ := hp
      obtain ⟨hS1, hSn⟩ := hpin _ (List.mem_singleton.mpr rfl)
      exact wpAny_pure (hR _ us ys H' c (hk _ _ hS1) rv hn ((inv_setGen I1 (g := g) (x := .finished) rfl).call' (ch := []) rfl (Un.kept hk) (I1.hok.kept hk) (allBare_setGen I1.bare rfl) fun b z => by simp at z) hSn hE)
/-- the items of a generator, in order -/
theorem collect_gx {A : Around} {u : Value} {Q' : List Value → Shared → Prop} {E : Value → Shared → Prop} (hA : RoomG k A.in1.in1.in1) (hfr : A.frames = some X.stack) (hd : A.depth < recursionLimit) (h : GxMade X pins σ k stopN En u s)
    (hQ : ∀ s' us ys H', Vals ys us → us.length ≤ sizeLine → Inv X pins σ H' s' → En ys H' → Q' us s') : wpAny (model X.prog X.w) A (collect u) Q' E s := by
  obtain ⟨a, g, cd, H1, rfl, ha, hg, hgs, I1, wake⟩ := h
  have hcl : cStatics < s.heap.objs.size := let ⟨_, hn, _⟩ := I1.nolimit; hn.lt
  have hSa : s.heap.objs.size ≠ a := Nat.ne_of_gt ha
  unfold collect
  refine wpAny_bind (wpAny_runValue (codeAny_builtin F.entry_proto_collect ?_))
  rw [Around.under_plainId F.plain_proto_collect _]
  show wpAny _ A.in1 (newList [] >>= fun l => again (.builtin "list.__iadd__" ⟨[l, .ref a], []⟩)) _ _ s
  refine wpAny_bind (wpAny_newObj_type ?_)
  refine wpAny_pure ⟨plainId_quiet F.plain_list_iadd _, codeAny_builtin F.entry_list_iadd ?_⟩
  rw [Around.under_plainId F.plain_list_iadd _]
  show wpAny _ A.in1 (Builtin.List.listExtendWith (.ref s.heap.objs.size) (.ref a) (.ref s.heap.objs.size)) _ _ _
  unfold Builtin.List.listExtendWith
  have kp : ∀ b o, s.heap.get? b = some o → (s.heap.push { cls := .type "list", data := .seq ([] : List Value).toArray }).get? b = some o := fun b o e => Heap.get?_push_of_some _ e
  have hg1 : (s.heap.push { cls := .type "list", data := .seq ([] : List Value).toArray }).IsGen a g := hg.keeps kp
  refine wpAny_bind (wpAny_typeOf (Heap.IsGen.typeIs (s := { s with heap := _ }) hg1) ?_)
  have h1 : Builtin.List.listSameRef (.ref s.heap.objs.size) (.ref a) = false := by simp [Builtin.List.listSameRef, hSa]
  have h2 : (Value.type "generator" == Value.type "list") = false := by decide
  have h3 : (Value.type "generator" == Value.type "tuple") = false := by decide
  simp only [h1, h2, h3, Bool.or_false, Bool.false_eq_true, if_false]
  refine wpAny_bind (wpAny_pyIter_gen (s := { s with heap := _ }) hg1 ?_)
  refine wpAny_bind (wpAny_holding ?_)
  unfold Builtin.List.listLengthHint
  refine wpAny_bind (wpAny_specialOf (Heap.IsGen.typeIs (s := { s with heap := _ }) hg1) F.gen_no_len ?_)
  show wpAny _ A.in1 (specialOf (Value.ref a) (Str.ofString "__length_hint__") >>= _) _ _ _
  refine wpAny_bind (wpAny_specialOf (Heap.IsGen.typeIs (s := { s with heap := _ }) hg1) F.gen_no_hint ?_)
  refine wpAny_pure ?_
  show wpAny _ A.in1 (rule "list.extend.makes-room" >>= fun _ => Builtin.List.listTouch (.ref s.heap.objs.size) >>= fun _ =>
    again (.builtin "list.extend.loop" ⟨[.ref s.heap.objs.size, .ref a, .ref s.heap.objs.size], []⟩)) _ _ _
  refine wpAny_bind (wpAny_rule ?_)
  have hS₁ : (s.heap.push { cls := .type "list", data := .seq ([] : List Value).toArray }).get? s.heap.objs.size = some { cls := .type "list", data := .seq ([] : List Value).toArray } := Heap.get?_push_size _ rfl
  refine wpAny_bind ?_
  show wpAny _ A.in1 (updateSeq s.heap.objs.size (·.push .none) >>= fun _ => updateSeq s.heap.objs.size (·.pop)) _ _ _
  refine wpAny_bind (wpAny_updateSeq hS₁ rfl ?_)
  have hS₂ := Heap.get?_update_self (Obj.mapSeq (·.push Value.none)) hS₁ rfl
  refine wpAny_updateSeq hS₂ rfl ?_
  obtain ⟨c3, hS₃⟩ : ∃ c3 : Nat, (((s.heap.push { cls := .type "list", data := .seq ([] : List Value).toArray }).update s.heap.objs.size (Obj.mapSeq (·.push Value.none))).update s.heap.objs.size (Obj.mapSeq (·.pop))).get? s.heap.objs.size = some (lstObj (List.toArray []) c3) := ⟨_, Heap.get?_update_self (Obj.mapSeq (·.pop)) hS₂ rfl⟩
  have oth : ∀ b o, s.heap.get? b = some o →
      (((s.heap.push { cls := .type "list", data := .seq ([] : List Value).toArray }).update s.heap.objs.size (Obj.mapSeq (·.push Value.none))).update s.heap.objs.size (Obj.mapSeq (·.pop))).get? b = some o :=
    fun b o e => (Heap.get?_update_other _ _ (Ne.symm (Nat.ne_of_lt (Heap.lt_size e)))).trans ((Heap.get?_update_other _ _ (Ne.symm (Nat.ne_of_lt (Heap.lt_size e)))).trans (kp b o e))
  refine wpAny_pure ⟨plainId_quiet F.plain_extend_loop _, ext_drain (A := A) (S := s.heap.objs.size) (X := X) (pins := pins) (σ := σ) (En := En) hA.hd hd hSa (Nat.ne_of_gt hcl) (fun s' us ys H' c e1 rv hl I' hn hE => ?_) sizeLine _ (hg.keeps oth) (I1.nolimit.keeps oth) ⟨_, hgs, rfl, ?_⟩⟩
  · show wpAny _ A (load s.heap.objs.size >>= _) _ _ s'
    refine wpAny_bind (wpAny_load e1 ?_)
    refine wpAny_pure ?_
    have e : (List.toArray us).toList = us := by simp
    show Q' (List.toArray us).toList s'
    rw [e]
    exact hQ s' us ys H' rv hl I' hE
  · refine wake _ (kLst s.heap.objs.size) _ ⟨hA.hd, ?_, ?_⟩ hfr (fun b hb => ?_) oth ⟨[(s.heap.objs.size, lstObj (List.toArray []) c3)], ⟨c3, rfl⟩, fun p hp => ?_⟩ rfl (allBare_setGen (s := { s with heap := _ }) I1.bare rfl)
    · exact hA.dp
    · have := hA.un
      show A.units + 1 + 1 + 3 + 16 * k + 200 < _
      have this : A.units + 1 + 1 + 1 + 3 + 16 * k + 200 < cLine := this
      omega
    · rw [List.mem_singleton.mp hb]; exact Nat.le_refl _
    · rw [List.mem_singleton.mp hp]; exact hS₃
def EnT (Q : VK) (ys : List V) (H : Hp) : Prop := ∀ p, H p = none → Q (.ref p) (upd H p (.tup ys))
theorem call_tuple_gx {u : Value} (hr : Room (k + 1) X.A) (h : GxMade X pins σ k stopN (EnT Q) u s) : wpAny (model X.prog X.w) X.A (call (.type "tuple") [u]) (EP X pins σ Q) E s := by
  have hcol : ∀ {Q' : List Value → Shared → Prop} {E' : Value → Shared → Prop}, (∀ s' us ys H', Vals ys us → us.length ≤ sizeLine → Inv X pins σ H' s' → EnT Q ys H' → Q' us s') → wpAny (model X.prog X.w) X.A.in1.in1 (collect u) Q' E' s := fun hq =>
    collect_gx (roomG_of hr 5 (by decide) rfl rfl rfl) (by obtain ⟨a, g, cd, H1, rfl, ha, hg, hgs, I1, wake⟩ := h; exact I1.ok.frames) (by have := hr.dp; show X.A.depth < _; omega) h hq
  obtain ⟨a, g, cd, H1, rfl, ha, hg, hgs, I1, wake⟩ := h
  refine callType_codes (Q₁ := fun obj s₁ => s₁.TypeIs obj "tuple" ∧ EP X pins σ Q obj s₁) F.called_tuple (F.typeCall_tuple_1 _) F.entry_object_init ?_ fun obj s₁ h₁ => ?_
  · refine codeAny_of_tree ?_
    show wpAny _ X.A.in1.in1 (do checkBuiltinCall "tuple.__new__" ⟨[.type "tuple", .ref a], []⟩; again (.builtin "tuple.__new__" ⟨[.type "tuple", .ref a], []⟩)) _ _ s
    refine wpAny_bind (wpAny_of_eq (F.newCall_tuple_1 _) (wpAny_pure ⟨plainId_quiet F.plain_tuple_new _, codeAny_builtin F.entry_tuple_new ?_⟩))
    rw [Around.under_plainId F.plain_tuple_new _]
    have hsub := sub_tuple_self
    have hinit := init_tuple_lookup
    have hmh := madeHere_tuple
    have hTI := Heap.IsGen.typeIs (s := s) hg
    wp_walk using wpAny_typeOf hTI, hcol
    intro s' us ys H' rv hl I' hE
    show wpAny _ _ (Builtin.Tuple.tupleExact us.toArray >>= fun v => ret v) _ _ _
    unfold Builtin.Tuple.tupleExact
    refine wpAny_bind (wpAny_newObj_type ?_ (by show us.toArray.size ≤ sizeLine; rw [List.size_toArray]; exact hl))
    refine wpAny_pure ?_
    refine ⟨⟨_, Heap.get?_push_size _ rfl, rfl⟩, .ref s'.heap.objs.size, upd H' s'.heap.objs.size (.tup ys), I'.laid (t' := s'.toks) (fun b o e => Heap.get?_push_of_some _ e) (Nat.le_refl _) ⟨by rw [rv.length]; exact hl, us, rv, ?_⟩, rfl, hE _ (I'.hok.fresh (Nat.le_refl _))⟩
    exact ⟨_, Heap.get?_push_size _ rfl, rfl, _, rfl⟩
  · exact ⟨h₁.1, F.args_object_init_2 obj _, object_init_meets F.called_tuple.init.lookup F.called_tuple.made (by decide) X.prog X.w X.A.in1 _ s₁ ⟨h₁.1, rfl, h₁.2⟩⟩
end
end Kp

/-! Kg, part F: generator expressions by data. Own work. -/
namespace Kp
open PySem PySem.Spec PyProof.Rows L2

def Gk.stopV : Gk → V → Bool
  | .all => stopB true
  | .any => stopB false
  | .sum => stopI
  | .tuple => stopN
def Gk.EnV : Gk → VK → List V → Hp → Prop
  | .all => EnB true
  | .any => EnB false
  | .sum => EnI
  | .tuple => EnT
section
variable {K : Kq} {φ φ0 : Ph} {n n0 : Nat} {H H0 H2 : Hp} {s s' : S} {v : V} {d : D} {ds rs : List D} {ys : List V}
theorem stop_rel {k : Gk} (h : RV K φ n H v d) : k.stopV v = k.stop d := by
  cases k with
  | all => cases h <;> simp [Gk.stopV, Gk.stop, stopB]
  | any => cases h <;> simp [Gk.stopV, Gk.stop, stopB]
  | sum => cases h <;> rfl
  | tuple => rfl
theorem Rel.tabbed (r : Rel K φ s H) {P : Addr} (hP : GxR.TabG H P) (h : GxR.Tabbed P H H2) : Ext φ s.length H φ s.length H2 ∧ Rel K φ s H2 := by
  obtain ⟨ps, hP1, _⟩ := hP
  obtain ⟨hT, hb⟩ := h
  have nP : ∀ a o, H a = some o → NTb o → H2 a = some o := fun a o e ho => by
    rw [hb a fun z => by rw [z, hP1] at e; exact ho ps (Option.some.inj e).symm]; exact e
  have x : Ext φ s.length H φ s.length H2 := by
    refine ⟨Nat.le_refl _, fun _ _ => rfl, fun i h1 h2 => absurd h1 (by omega), fun a o e ho _ => nP a o e ho, fun a ps e => ?_, fun _ h => h, fun _ h => .inl h⟩
    by_cases z : a = P
    · subst z
      obtain ⟨ps', h1, _⟩ := hT
      exact ⟨ps', h1⟩
    · exact ⟨ps, by rw [hb a z]; exact e⟩
  refine ⟨x, r.inj, fun i c e => ?_, fun a h => ⟨?_, (r.fo a h).2⟩, fun P' h' => ?_⟩
  · have q := r.cell i c e
    have m := r.cm i (List.getElem?_eq_some_iff.mp e).1
    obtain ⟨o, ho⟩ := mut_some m
    exact q.mono r.cm x ((nP _ o ho (by rw [ho] at m; exact ntb_mut m)).trans ho.symm)
  · have m := (r.fo a h).1
    obtain ⟨o, e⟩ := mut_some m
    rw [nP a o e (by rw [e] at m; exact ntb_mut m), ← e]
    exact m
  · by_cases z : P' = P
    · rw [z]; exact hT
    · exact tabG_keep (r.tab P' h') (hb P' z)
theorem RVs.bools {c : Bool} (r : RVs K φ n H ys rs) (h : ∀ d ∈ rs, d = .bl c) : ∀ y ∈ ys, y = .bl c := by
  induction rs generalizing ys with
  | nil => cases r; intro y hy; cases hy
  | cons d rs ih =>
    cases r with
    | cons h1 r =>
      intro y hy
      rcases List.mem_cons.mp hy with z | z
      · subst z
        have e := h d List.mem_cons_self
        subst e
        cases h1
        rfl
      · exact ih r (fun x hx => h x (List.mem_cons_of_mem _ hx)) y z
theorem RVs.ints_inv (r : RVs K φ n H ys rs) : ∀ {ns : List Int}, intsOf rs = some ns → ys = ns.map V.int := by
  induction rs generalizing ys with
  | nil => cases r; intro ns h; cases h; rfl
  | cons d rs ih =>
    cases r with
    | cons h1 r =>
      intro ns h
      cases d with
      | int i =>
        unfold intsOf at h
        cases e : intsOf rs with
        | none => rw [e] at h; cases h
        | some ms =>
          rw [e] at h
          cases h
          cases h1
          rw [ih r e]
          rfl
      | _ => cases h
theorem RVs.snoc {l : List D} {x : D} (r : RVs K φ n H ys (l ++ [x])) : ∃ ys' y, ys = ys' ++ [y] ∧ RVs K φ n H ys' l ∧ RV K φ n H y x := by
  induction l generalizing ys with
  | nil =>
    cases r with
    | cons h1 r => cases r; exact ⟨[], _, rfl, .nil, h1⟩
  | cons d l ih =>
    cases r with
    | cons h1 r =>
      obtain ⟨ys', y, e, a, b⟩ := ih r
      exact ⟨_ :: ys', y, by rw [e]; rfl, .cons h1 a, b⟩
theorem gk_fin {k : Gk} (h : k.fin ds s = some (d, s')) : ds.length ≤ lim := by
  unfold Gk.fin at h
  by_cases hl : ds.length ≤ lim
  · exact hl
  · rw [if_neg hl] at h; cases h
theorem gk_en {k : Gk} {Q : VK} (x : Ext φ0 n0 H0 φ s.length H) (r : Rel K φ s H) (hv : RVs K φ s.length H ys rs) (hf : k.fin rs s = some (d, s')) (q : PostE K φ0 n0 H0 d s' Q)
    (hs : (∀ d ∈ rs, k.stop d = false) ∨ ∃ l z, rs = l ++ [z] ∧ k.stop z = true) : k.EnV Q ys H := by
  have hl := gk_fin hf
  unfold Gk.fin at hf
  rw [if_pos hl] at hf
  cases k with
  | tuple =>
    have hf : some (D.tup rs, s) = some (d, s') := hf
    have hn : newT rs s = some (d, s') := by unfold newT; rw [if_pos hl]; exact hf
    exact (newT_post r hv hn (q.ext x r)).2
  | sum =>
    have hf : (intsOf rs).map (fun ns => (D.int ns.sum, s)) = some (d, s') := hf
    cases e : intsOf rs with
    | none => rw [e] at hf; cases hf
    | some ns =>
      rw [e] at hf
      cases hf
      exact ⟨ns, hv.ints_inv e, (q.ext x r).now r (.int _)⟩
  | all =>
    rcases hs with hs | ⟨l, z, rfl, hz⟩
    · have ha : ∀ d ∈ rs, d = .bl true := fun d hd => by have := hs d hd; simpa [Gk.stop] using this
      refine .inl ⟨hv.bools ha, ?_⟩
      cases e : rs.getLast? with
      | none => rw [e] at hf; cases hf; exact (q.ext x r).now r (.bl _)
      | some y =>
        rw [e] at hf
        have := ha y (List.mem_of_getLast? e)
        subst this
        cases hf
        exact (q.ext x r).now r (.bl _)
    · rw [List.getLast?_concat] at hf
      obtain ⟨ys', y, rfl, h1, h2⟩ := hv.snoc
      cases z with
      | bl b =>
        cases b with
        | true => simp [Gk.stop] at hz
        | false =>
          cases hf
          cases h2
          exact .inr ⟨ys', rfl, (q.ext x r).now r (.bl _)⟩
      | _ => cases hf
  | any =>
    rcases hs with hs | ⟨l, z, rfl, hz⟩
    · have ha : ∀ d ∈ rs, d = .bl false := fun d hd => by have := hs d hd; simpa [Gk.stop] using this
      refine .inl ⟨hv.bools ha, ?_⟩
      cases e : rs.getLast? with
      | none => rw [e] at hf; cases hf; exact (q.ext x r).now r (.bl _)
      | some y =>
        rw [e] at hf
        have := ha y (List.mem_of_getLast? e)
        subst this
        cases hf
        exact (q.ext x r).now r (.bl _)
    · rw [List.getLast?_concat] at hf
      obtain ⟨ys', y, rfl, h1, h2⟩ := hv.snoc
      cases z with
      | bl b =>
        cases b with
        | false => simp [Gk.stop] at hz
        | true =>
          cases hf
          cases h2
          exact .inr ⟨ys', rfl, (q.ext x r).now r (.bl _)⟩
      | _ => cases hf
end
theorem gx_read {K : Kq} {P : Addr} (hP : P ∈ K.T) {t : Tg} {ri : IR} {rt : Env → S → Option (Bool × S)} {re : ER} {vs : List Nat} {k : Gk} (hsl : ∀ i ∈ slots t, i ∈ vs) {σ : L2.St} {H : Hp} {Q : VK} {φ : Ph} {env : Env} {s s' : S} {d : D}
    (rel : Rel K φ s H) (e : EnvR K φ s.length H σ env) (h : (bd (ri env s) fun p s1 => bd (gxL (stepL t vs rt re env) k.stop p.2 p.1 s1) k.fin) = some (d, s')) (q : PostE K φ s.length H d s' Q) :
    tGx P (tI K ri) (tG K t) (tQ K rt) (tE K re) vs k.stopV (k.EnV Q) σ H := by
  obtain ⟨p, s1, h1, h⟩ := bd_inv h
  obtain ⟨ds, lk⟩ := p
  obtain ⟨rs, s2, h2, hn⟩ := bd_inv h
  have hlen : rs.length ≤ lim := gk_fin hn
  refine ⟨φ, env, s, ds, lk, s1, rel, e, h1, fun J H1 φ1 x1 r1 l1 it => ⟨r1.tab P hP, fun H1' hT => ?_⟩⟩
  obtain ⟨xt, rt1⟩ := r1.tabbed (r1.tab P hP) hT
  have e1 := e.mono rel.cm x1
  refine ⟨fun i m ys H' => m = ds.length - i ∧ i ≤ ds.length ∧ ∃ (φ' : Ph) (s' : S) (accD rest : List Kp.D), Ext φ1 s1.length H1 φ' s'.length H' ∧ Rel K φ' s' H' ∧ RVs K φ' s'.length H' ys accD ∧ (∀ d ∈ accD, k.stop d = false) ∧ lkOk lk s' = true ∧
    gxL (stepL t vs rt re env) k.stop lk (ds.drop i) s' = some (rest, s2) ∧ accD ++ rest = rs, ⟨ds.length, by simp, Nat.zero_le _, φ1, s1, [], rs, xt, rt1, .nil, (fun d hd => by cases hd), l1, h2, rfl⟩, ?_⟩
  rintro i m ys H' ⟨rfl, hi, φ', s', accD, rest, x, r, racc, hns, hlk, hc, hsum⟩
  by_cases hlt : i < ds.length
  · have hdi : ds[i]? = some ds[i] := List.getElem?_eq_getElem hlt
    obtain ⟨hgo, hy⟩ := (it φ' s' H' x r hlk i).2 _ hdi
    refine .inr ⟨hgo, fun ys H' => i + 1 ≤ ds.length ∧ ∃ (φ' : Ph) (s' : S) (accD rest : List Kp.D), Ext φ1 s1.length H1 φ' s'.length H' ∧ Rel K φ' s' H' ∧ RVs K φ' s'.length H' ys accD ∧ (∀ d ∈ accD, k.stop d = false) ∧ lkOk lk s' = true ∧
      gxL (stepL t vs rt re env) k.stop lk (ds.drop (i + 1)) s' = some (rest, s2) ∧ accD ++ rest = rs, fun ys H' p => ⟨_, by omega, rfl, p⟩, fun v H2 y => ?_⟩
    obtain ⟨φ2, x2, r2, hv⟩ := hy v H2 y
    rw [List.drop_eq_getElem_cons hlt] at hc
    obtain ⟨o, s3, hst, hc⟩ := bd_inv hc
    unfold stepL at hst
    cases ha : asgT t ds[i] (wipeD env vs) with
    | none => rw [ha] at hst; cases hst
    | some env' =>
      rw [ha] at hst
      obtain ⟨b, s5, hrt, hst⟩ := bd_inv hst
      have e2 : EnvR K φ2 s'.length H2 (wipe σ vs) (wipeD env vs) := ((e1.mono r1.cm x).mono r.cm x2).wipe vs
      refine ⟨φ2, _, s', _, env', r2, e2, hv, ha, fun σ2 e3 near => ⟨by rw [near.wipe hsl, wipe_wipe], ?_⟩⟩
      refine ⟨φ2, env', s', b, s5, r2, e3, hrt, fun H3 φ3 x3 r3 => ?_⟩
      have x123 : Ext φ1 s1.length H1 φ3 s5.length H3 := (x.trans r.cm x2).trans r2.cm x3
      have racc3 : RVs K φ3 s5.length H3 ys accD := (racc.mono r.cm x2).mono r2.cm x3
      cases b with
      | false =>
        refine iteF ?_
        cases hst
        have hc : (if lkOk lk s3 then gxL (stepL t vs rt re env) k.stop lk (ds.drop (i + 1)) s3 else none) = some (rest, s2) := hc
        by_cases hl3 : lkOk lk s3 = true
        · rw [if_pos hl3] at hc
          exact ⟨hlt, φ3, _, accD, rest, x123, r3, racc3, hns, hl3, hc, hsum⟩
        · rw [if_neg hl3] at hc; cases hc
      | true =>
        refine iteT ?_
        obtain ⟨dx, s6, hre, hst⟩ := bd_inv hst
        cases hst
        refine ⟨φ3, env', s5, dx, _, r3, e3.mono r2.cm x3, hre, fun w H4 φ4 x4 r4 hw => ?_⟩
        have racc4 := (racc3.mono r3.cm x4).append (.cons hw .nil)
        have hsr := stop_rel (k := k) hw
        have hc : (if k.stop dx then some ([dx], s3) else if lkOk lk s3 then bd (gxL (stepL t vs rt re env) k.stop lk (ds.drop (i + 1)) s3) fun r s2 => some (dx :: r, s2) else none) = some (rest, s2) := hc
        have x1234 := x123.trans r3.cm x4
        have hylt : accD.length < rs.length := by
          rw [← hsum, List.length_append]
          cases hst : k.stop dx with
          | true => rw [hst, if_pos rfl] at hc; cases hc; simp
          | false =>
            rw [hst, if_neg Bool.false_ne_true] at hc
            by_cases hl3 : lkOk lk s3 = true
            · rw [if_pos hl3] at hc
              obtain ⟨rest', s4, hc', hc⟩ := bd_inv hc
              cases hc
              simp
            · rw [if_neg hl3] at hc; cases hc
        refine ⟨?_, fun hsp => ?_, fun hsp => ?_⟩
        · rw [racc.length]
          have z2 := lim_le
          omega
        · rw [hsr] at hsp
          rw [hsp, if_pos rfl] at hc
          cases hc
          have e9 : accD ++ [dx] = rs := hsum
          exact gk_en (x1.trans r1.cm x1234) r4 (by rw [← e9]; exact racc4) hn q (.inr ⟨accD, dx, e9.symm, hsp⟩)
        · rw [hsr] at hsp
          rw [hsp, if_neg Bool.false_ne_true] at hc
          by_cases hl3 : lkOk lk s3 = true
          · rw [if_pos hl3] at hc
            obtain ⟨rest', s4, hc', hc⟩ := bd_inv hc
            cases hc
            refine ⟨hlt, φ4, _, accD ++ [dx], rest', x1234, r4, racc4, fun d hd => ?_, hl3, hc', by simpa using hsum⟩
            rcases List.mem_append.mp hd with z | z
            · exact hns d z
            · rw [List.mem_singleton.mp z]; exact hsp
          · rw [if_neg hl3] at hc; cases hc
  · have hd0 : ds.drop i = [] := List.drop_eq_nil_of_le (by omega)
    rw [hd0] at hc
    cases hc
    rw [List.append_nil] at hsum
    subst hsum
    exact .inl ⟨(it φ' _ H' x r hlk i).1 (by omega), gk_en (x1.trans r1.cm x) r racc hn q (.inl hns)⟩
section
variable {X : Cx} {pos : Pos}
def Gk.nm : Gk → Str
  | .all => "all"
  | .any => "any"
  | .sum => "sum"
  | .tuple => "tuple"
theorem se_gx {elt tg iter : Expr} {ifs : List Expr} {scope : Scope} {own : List (Str × Nat)} {t : Tg} {ri : IR} {rt : Env → S → Option (Bool × S)} {re : ER} {k : Gk} {nn : Nat} {c P : Addr} {p gpos : Pos}
    (hr : Room (nn + 1) X.A) (hgl : Gl X k.nm) (hm : X.mg k.nm = none) (hN : X.N.Nodup) (TB : GxR.TabB X.base X.mg c P) (hcode : X.env.code = .ref c) (hP : P ∈ τ) (hi : PI X tg iter (tI (qx X τ) ri)) (ok : BlkOk X.N X.env.scope scope own) (hnc : ∀ y ∈ scope.names, y.2 ≠ .cell) (hco : scope.isCoroutine = false) (hdot : scope.names.lookup (".0" : Str) = some NameKind.local)
    (hg : ∀ (A : Around) (s : Shared) (H : Hp) (C : Addr) (code : Value) (fp : List Addr) (pn : List (Addr × Obj)), Room nn A → PG (gcx X A s H scope (genEnv scope (cloFrom X.env.cells scope.names []) C code builtinsNs X.env) fp pn) tg (tG (qx X τ) t))
    (ht : ∀ (A : Around) (s : Shared) (H : Hp) (C : Addr) (code : Value) (fp : List Addr) (pn : List (Addr × Obj)), Room nn A → PTs (gcx X A s H scope (genEnv scope (cloFrom X.env.cells scope.names []) C code builtinsNs X.env) fp pn) ifs (tQ (qx X τ) rt))
    (he : ∀ (A : Around) (s : Shared) (H : Hp) (C : Addr) (code : Value) (fp : List Addr) (pn : List (Addr × Obj)), Room nn A → PE (gcx X A s H scope (genEnv scope (cloFrom X.env.cells scope.names []) C code builtinsNs X.env) fp pn) elt (tE (qx X τ) re))
    (hs : ∀ v, genFold iter X.env v = pure v) (hsl : ∀ i ∈ slots t, i ∈ own.map (·.2)) :
    PE X (.Call (.Name k.nm p) [.GeneratorExp elt [⟨tg, iter, ifs, 0⟩] scope gpos] [] pos) (tE (qx X τ) fun env s => bd (ri env s) fun p s1 => bd (gxL (stepL t (own.map (·.2)) rt re env) k.stop p.2 p.1 s1) k.fin) := by
  refine ⟨fun pins s σ H Q I ⟨φ, env, st, d, s', r, e, h, q⟩ => ?_⟩
  have rd := gx_read (P := P) (K := qx X τ) hP hsl r e h q
  have ev := gx_eval (pos := gpos) hr hN TB hcode hi ok hnc hco hdot hg ht he hs I rd
  have he : starEach [.GeneratorExp elt [⟨tg, iter, ifs, 0⟩] scope gpos] X.env = (false, eval (.GeneratorExp elt [⟨tg, iter, ifs, 0⟩] scope gpos) X.env) :: starEach [] X.env := rfl
  have sp : ∀ {Q' : List Value → Shared → Prop}, (∀ u s, GxMade X pins σ nn k.stopV (k.EnV Q) u s → Q' [u] s) → wpAny (model X.prog X.w) X.A (spliced (backTo pos (starEach [.GeneratorExp elt [⟨tg, iter, ifs, 0⟩] scope gpos] X.env))) Q' X.xe s := fun hq => by
    rw [he]
    show wpAny _ _ (spliced ((false, eval (.GeneratorExp elt [⟨tg, iter, ifs, 0⟩] scope gpos) X.env) :: backTo pos (starEach [] X.env))) _ _ s
    exact Calls.spliced_cons (thn ev fun u s1 hG => Calls.spliced_nil (hq u s1 hG))
  cases k with
  | all =>
    refine wpAny_Call_Name_kw (ld_blt I hgl hm boot_all ?_ (by decide) (by decide))
    exact PyProof.Rows.callWith_builtin1 (sp fun u s1 hG => call_all_gx hr hG) he rfl
  | any =>
    refine wpAny_Call_Name_kw (ld_blt I hgl hm boot_any ?_ (by decide) (by decide))
    exact PyProof.Rows.callWith_builtin1 (sp fun u s1 hG => call_any_gx hr hG) he rfl
  | sum =>
    refine wpAny_Call_Name_kw (ld_blt I hgl hm boot_sum ?_ (by decide) (by decide))
    exact PyProof.Rows.callWith_builtin1 (sp fun u s1 hG => call_sum_gx hr hG) he rfl
  | tuple =>
    refine wpAny_Call_Name_kw (ld_blt I hgl hm boot_tuple ?_ (by decide) (by decide))
    exact PyProof.Rows.callWith_type1 (sp fun u s1 hG => call_tuple_gx hr hG) he rfl
end
end Kp

/-! Kp, part K: methods, isinstance, tests; statements. Own work. -/
namespace Kp
open PySem PySem.Spec PyProof.Rows L2

section
variable {X : Cx} {pos apos : Pos} {o e a b c : Expr} {ro ra rb rc re : ER}
/-! ### methods -/
theorem go_inv {c : Prop} [Decidable c] {β : Type} {x : Option β} {y : β} (h : (if c then x else none) = some y) : c ∧ x = some y := by
  by_cases hc : c
  · rw [if_pos hc] at h; exact ⟨hc, h⟩
  · rw [if_neg hc] at h; cases h
theorem se_mt0 {id : String} {name : Str} {m : Mt} (hg : m ≠ .get ∧ m ≠ .get2) (slot : Slot "list" name id) (hty : typeOf (.builtin id) = pure (.type "method_descriptor")) (hm : OpM X id (mtD m)) (ho : PE X o (tE (qx X τ) ro)) (hbase : attributeBase o name X.env (eval o X.env) = eval o X.env) (hline : (apos.endLine == pos.line) = true) :
    PE X (.Call (.Attribute o name apos) [] [] pos) (tE (qx X τ) fun env s => bd (ro env s) fun x s1 => if mtGo m x s1 = true then bd (some ([], s1)) (mtD m x) else none) := by
  have hm' : MtR X id (fun x xs H Q => ∃ φ s d ds d' s', Rel (qx X τ) φ s H ∧ RV (qx X τ) φ s.length H x d ∧ RVs (qx X τ) φ s.length H xs ds ∧ mtD m d ds s = some (d', s') ∧ PostE (qx X τ) φ s.length H d' s' Q) := by
    intro pins sh σ H x xs v us Q I rx rv ⟨φ, s, d, ds, d', s', r, hx, hxs, h, q⟩
    exact hm pins sh σ H x xs v us Q φ s d ds d' s' I rx rv r hx hxs h q
  refine pe_imp (pe_bm0 PySem.F.plainAttrs_list slot hty hm' ho hbase hline) fun σ H Q ⟨φ, env, s, d, s', r, e, h, q⟩ => ?_
  obtain ⟨x, s1, h1, h⟩ := bd_inv h
  obtain ⟨_, h⟩ := go_inv h
  have h : mtD m x [] s1 = some (d, s') := h
  refine tE_go r e h1 fun v H1 φ1 x1 r1 e1 hv => ?_
  obtain ⟨k, xs, rfl, hk⟩ := mt_cell hg h
  have hv' := hv
  cases hv with
  | ref _ hi =>
    obtain ⟨_, vs, q1, _⟩ := cell_at r1 hk
    exact ⟨.inl ⟨rfl, vs, SqL.of q1⟩, φ1, s1, _, [], d, s', r1, hv', .nil, h, q.ext x1 r1⟩
theorem ref_list {K : Kq} {φ : Ph} {s : S} {H : Hp} {m : Mt} {d : D} {v : V} (r : Rel K φ s H) (hv : RV K φ s.length H v d) (hg : m ≠ .get ∧ m ≠ .get2) (h : mtGo m d s = true) : tyV K "list" v H := by
  have h : (lstOf s d).isSome = true := by cases m <;> first | exact h | exact absurd rfl hg.1 | exact absurd rfl hg.2
  obtain ⟨es, he⟩ := Option.isSome_iff_exists.mp h
  obtain ⟨p, vs, rfl, q, _⟩ := lstOf_rel r hv he
  exact .inl ⟨rfl, vs, SqL.of q⟩
/-- v is a dict -/
def dctV (x : V) (H : Hp) : Prop := ∃ a, x = .ref a ∧ ((∃ kvs, H a = some (.dK kvs)) ∨ ∃ w es, H a = some (dN w a es))
theorem dctV_is {pins : List (Addr × Obj)} {σ : L2.St} {H : Hp} {s : Shared} {x : V} {v : Value} (I : Inv X pins σ H s) (r : RelV x v) (h : dctV x H) :
    s.TypeIs v "dict" ∧ ∀ a, v = .ref a → ∃ ob, s.heap.get? a = some ob ∧ ob.dict = none := by
  obtain ⟨p, rfl, h⟩ := h
  cases r
  have z : ∃ o, s.heap.get? p = some o ∧ o.ExactDict := by
    rcases h with ⟨kvs, h⟩ | ⟨w, es, h⟩
    · obtain ⟨_, _, _, _, ob, _, _, e, ex, _⟩ := dk_of I.hok h
      exact ⟨ob, e, ex⟩
    · obtain ⟨⟨_, _, _, _, ob, _, _, e, ex, _⟩, _⟩ := I.hok p _ h
      exact ⟨ob, e, ex⟩
  obtain ⟨o, e, ex⟩ := z
  exact ⟨⟨o, e, ex.1⟩, fun b eb => by cases eb; exact ⟨o, e, ex.2.1⟩⟩
theorem cell_dctV {φ : Ph} {s : S} {H : Hp} {k : Nat} {kvs : Kvs} (r : Rel (qx X τ) φ s H) (e : s[k]? = some (.dct kvs)) : dctV (.ref (φ k)) H := by
  rcases r.cell k _ e with ⟨xs, h, _⟩ | ⟨es, h, _⟩
  · exact ⟨_, rfl, .inl ⟨_, h⟩⟩
  · exact ⟨_, rfl, .inr ⟨_, _, h⟩⟩
/-- a method of a dict -/
theorem pe_dm {id : String} {name : Str} {es : List Expr} {to : TE} {t : TA} {rr : V → List V → Hp → VK → Prop} (slot : Slot "dict" name id) (hty : typeOf (.builtin id) = pure (.type "method_descriptor")) (hm : MtR X id rr) (ho : PE X o to) (ha : PA X (a :: es) t)
    (hbase : attributeBase o name X.env (eval o X.env) = eval o X.env)
    (hfew : ((backTo pos (starEach (a :: es) X.env)).all (fun x => !x.1) && (backToKw pos (keywordEach [] X.env)).all (fun x => x.1.isSome) && decide ((a :: es).length + ([] : List Keyword).length + (if ([] : List Keyword).isEmpty then 0 else 1) < 30)) = true)
    (hline : (apos.endLine == pos.line) = true) (hs : starEach (a :: es) X.env = (false, eval a X.env) :: starEach es X.env) (hplain : (backTo pos (starEach es X.env)).any (·.1) = false) :
    PE X (.Call (.Attribute o name apos) (a :: es) [] pos) (fun σ H Q => to σ H fun x H1 => dctV x H1 ∧ t σ H1 fun xs H2 => rr x xs H2 Q) := by
  refine ⟨fun pins sh σ H Q I h => ?_⟩
  refine wpAny_Call_method_late hbase hfew hline rfl (thn (ho.run pins sh σ H _ I h) fun v sh1 ⟨x, H1, I1, rx, hx, q1⟩ => ?_)
  obtain ⟨z1, z2⟩ := dctV_is I1 rx hx
  refine ⟨"dict", id, PySem.F.plainAttrs_dict, slot, hty, z1, z2, ?_⟩
  have walk := ha.run pos pins sh1 σ H1 _ I1 q1
  rw [hs] at walk ⊢
  exact Calls.callWith_builtin (by show (false || (backTo pos (starEach es X.env)).any (·.1)) = false; rw [hplain]; rfl) (Calls.evalArgs_plain (thn walk fun us sh2 ⟨vs, H2, I2, rs, q2⟩ => hm pins sh2 σ H2 x vs v us Q I2 rx rs q2))
theorem se_dm {id : String} {name : Str} {m : Mt} {es : List Expr} {rr : Env → S → Option (List D × S)} (hg : m = .get ∨ m = .get2) (slot : Slot "dict" name id) (hty : typeOf (.builtin id) = pure (.type "method_descriptor")) (hm : OpM X id (mtD m)) (ho : PE X o (tE (qx X τ) ro)) (ha : PA X (a :: es) (tA (qx X τ) rr)) (hbase : attributeBase o name X.env (eval o X.env) = eval o X.env)
    (hfew : ((backTo pos (starEach (a :: es) X.env)).all (fun x => !x.1) && (backToKw pos (keywordEach [] X.env)).all (fun x => x.1.isSome) && decide ((a :: es).length + ([] : List Keyword).length + (if ([] : List Keyword).isEmpty then 0 else 1) < 30)) = true)
    (hline : (apos.endLine == pos.line) = true) (hs : starEach (a :: es) X.env = (false, eval a X.env) :: starEach es X.env) (hplain : (backTo pos (starEach es X.env)).any (·.1) = false) :
    PE X (.Call (.Attribute o name apos) (a :: es) [] pos) (tE (qx X τ) fun env s => bd (ro env s) fun x s1 => if mtGo m x s1 = true then bd (rr env s1) (mtD m x) else none) := by
  have hm' : MtR X id (fun x xs H Q => ∃ φ s d ds d' s', Rel (qx X τ) φ s H ∧ RV (qx X τ) φ s.length H x d ∧ RVs (qx X τ) φ s.length H xs ds ∧ mtD m d ds s = some (d', s') ∧ PostE (qx X τ) φ s.length H d' s' Q) := by
    intro pins sh σ H x xs v us Q I rx rv ⟨φ, s, d, ds, d', s', r, hx, hxs, h, q⟩
    exact hm pins sh σ H x xs v us Q φ s d ds d' s' I rx rv r hx hxs h q
  refine pe_imp (pe_dm slot hty hm' ho ha hbase hfew hline hs hplain) fun σ H Q ⟨φ, env, s, d, s', r, e, h, q⟩ => ?_
  obtain ⟨x, s1, h1, h⟩ := bd_inv h
  obtain ⟨hgo, h⟩ := go_inv h
  obtain ⟨ds, s2, h2, h⟩ := bd_inv h
  have hgo : (dctOf s1 x).isSome = true := by rcases hg with rfl | rfl <;> exact hgo
  obtain ⟨kvs, hk⟩ := Option.isSome_iff_exists.mp hgo
  refine tE_go r e h1 fun v H1 φ1 x1 r1 e1 hv => ?_
  obtain ⟨i, rfl, rfl, _, hi, _⟩ := dctOf_rel r1 hv hk
  refine ⟨cell_dctV r1 hi, tA_go r1 e1 h2 fun vs H2 φ2 x2 r2 e2 hvs => ?_⟩
  exact ⟨φ2, s2, _, ds, d, s', r2, hv.mono r1.cm x2, hvs, h, q.ext (x1.trans r1.cm x2) r2⟩

theorem se_mt {id : String} {name : Str} {m : Mt} {es : List Expr} {rr : Env → S → Option (List D × S)} (hg : m ≠ .get ∧ m ≠ .get2) (slot : Slot "list" name id) (hty : typeOf (.builtin id) = pure (.type "method_descriptor")) (hm : OpM X id (mtD m)) (ho : PE X o (tE (qx X τ) ro)) (ha : PA X (a :: es) (tA (qx X τ) rr)) (hbase : attributeBase o name X.env (eval o X.env) = eval o X.env)
    (hfew : ((backTo pos (starEach (a :: es) X.env)).all (fun x => !x.1) && (backToKw pos (keywordEach [] X.env)).all (fun x => x.1.isSome)
      && decide ((a :: es).length + ([] : List Keyword).length + (if ([] : List Keyword).isEmpty then 0 else 1) < 30)) = true)
    (hline : (apos.endLine == pos.line) = true) (hs : starEach (a :: es) X.env = (false, eval a X.env) :: starEach es X.env) (hplain : (backTo pos (starEach es X.env)).any (·.1) = false) :
    PE X (.Call (.Attribute o name apos) (a :: es) [] pos) (tE (qx X τ) fun env s => bd (ro env s) fun x s1 => if mtGo m x s1 = true then bd (rr env s1) (mtD m x) else none) := by
  have hm' : MtR X id (fun x xs H Q => ∃ φ s d ds d' s', Rel (qx X τ) φ s H ∧ RV (qx X τ) φ s.length H x d ∧ RVs (qx X τ) φ s.length H xs ds ∧ mtD m d ds s = some (d', s') ∧ PostE (qx X τ) φ s.length H d' s' Q) := by
    intro pins sh σ H x xs v us Q I rx rv ⟨φ, s, d, ds, d', s', r, hx, hxs, h, q⟩
    exact hm pins sh σ H x xs v us Q φ s d ds d' s' I rx rv r hx hxs h q
  refine pe_imp (pe_bm PySem.F.plainAttrs_list slot hty hm' ho ha hbase hfew hline hs hplain) fun σ H Q ⟨φ, env, s, d, s', r, e, h, q⟩ => ?_
  obtain ⟨x, s1, h1, h⟩ := bd_inv h
  obtain ⟨hgo, h⟩ := go_inv h
  obtain ⟨ds, s2, h2, h⟩ := bd_inv h
  refine tE_go r e h1 fun v H1 φ1 x1 r1 e1 hv => ?_
  refine ⟨ref_list r1 hv hg hgo, tA_go r1 e1 h2 fun vs H2 φ2 x2 r2 e2 hvs => ?_⟩
  exact ⟨φ2, s2, _, ds, d, s', r2, hv.mono r1.cm x2, hvs, h, q.ext (x1.trans r1.cm x2) r2⟩

/-- {} -/
theorem se_dnew : PE X (.Dict [] [] pos) (tE (qx X τ) fun _ s => some (.ref s.length, s ++ [.dct []])) :=
  pe_imp pe_dnewK fun σ H Q ⟨φ, env, s, d, s', r, e, h, q⟩ p hp => by
    cases h
    exact newD_post r hp .nil q

/-! ### isinstance -/
theorem cr_isi {t : Ty} : CallR X (.builtin "isinstance") (fun xs H Q => ∃ x φ s d b, xs = [x, .ty (tyName t)] ∧ Rel (qx X τ) φ s H ∧ RV (qx X τ) φ s.length H x d ∧ isiD d t s = some b ∧ Q (.bl b) H) := by
  intro pins sh σ H xs us Q I rv ⟨x, φ, s, d, b, ex, r, hx, h, q⟩
  subst ex
  exact isi_ok I rv r hx h q
theorem se_isi {t : Ty} {p p2 : Pos} (hg : Gl X "isinstance") (hm : X.mg "isinstance" = none) (hgT : Gl X (Str.ofString (tyName t))) (hmT : X.mg (Str.ofString (tyName t)) = none) (hbT : bootBuiltins (Str.ofString (tyName t)) = some (.type (tyName t))) (hnT : Str.ofString (tyName t) ≠ "__name__") (hdT : (Str.ofString (tyName t) == ("__debug__" : Str)) = false)
    (ha : PE X a (tE (qx X τ) ra)) (hs : starEach [a, .Name (Str.ofString (tyName t)) p2] X.env = (false, eval a X.env) :: starEach [.Name (Str.ofString (tyName t)) p2] X.env) :
    PE X (.Call (.Name "isinstance" p) [a, .Name (Str.ofString (tyName t)) p2] [] pos) (tE (qx X τ) fun env s => bd (ra env s) fun x s1 => (isiD x t s1).map fun b => (.bl b, s1)) := by
  refine pe_imp (pe_callB (cr_isi (τ := τ) (t := t)) hg hm boot_isinstance (pa_cons ha (pa_cons (pe_bltn (v := .ty (tyName t)) hgT hmT hbT rfl hnT hdT) pa_nil rfl) hs) (by decide) (by decide) hs rfl) fun σ H Q ⟨φ, env, s, d, s', r, e, h, q⟩ => ?_
  obtain ⟨x, s1, h1, h⟩ := bd_inv h
  cases hb : isiD x t s1 with
  | none => rw [hb] at h; cases h
  | some b =>
    rw [hb] at h
    cases h
    refine tE_go r e h1 fun v H1 φ1 x1 r1 e1 hv => ?_
    exact ⟨v, φ1, _, x, b, rfl, r1, hv, hb, (q.ext x1 r1).now r1 (.bl _)⟩

/-! ### list(range(n)), tuple(range(n)) -/
theorem rg_rv {K : Kq} {φ : Ph} {n : Nat} {H : Hp} {m : Int} : RVs K φ n H (rgV 0 m) ((List.range m.toNat).map fun i => .int (i : Nat)) := by
  have e1 : rgV 0 m = ((List.range m.toNat).map fun (i : Nat) => (i : Int)).map V.int := by
    unfold rgV
    rw [List.map_map, Int.sub_zero]
    refine List.map_congr_left fun i _ => ?_
    show V.int (0 + (i : Nat)) = V.int (i : Nat)
    rw [Int.zero_add]
  have e2 : (List.range m.toNat).map (fun i => D.int (i : Nat)) = ((List.range m.toNat).map fun (i : Nat) => (i : Int)).map D.int := by
    rw [List.map_map]
    rfl
  rw [e1, e2]
  exact RVs.ints _
theorem se_listRg {mu : Bool} {p p2 pos2 : Pos} (hc : X.calm = true) (hg : Gl X "list") (hm : X.mg "list" = none) (hg2 : Gl X "range") (hm2 : X.mg "range" = none) (ha : PE X a (tE (qx X τ) ra)) (hs : starEach [a] X.env = (false, eval a X.env) :: starEach [] X.env) :
    PE X (.Call (.Name "list" p) [.Call (.Name "range" p2) [a] [] pos2] [] pos) (tE (qx X τ) fun env s => bd (bd (ra env s) fun x s1 => bd (some ([], s1)) fun xs s2 => some (x :: xs, s2)) (biD .listRg mu)) := by
  refine pe_imp (pe_listRg hc hg hm (prg_1 hg2 hm2 ha hs) rfl) fun σ H Q ⟨φ, env, s, d, s', r, e, h, q⟩ => ?_
  obtain ⟨ds, s1, h1, h⟩ := bd_inv h
  obtain ⟨x, s2, h2, h1⟩ := bd_inv h1
  cases h1
  refine tE_go r e h2 fun v H1 φ1 x1 r1 e1 hv => ?_
  cases x with
  | int n =>
    cases hv
    have h : (if -(lim : Int) ≤ n ∧ n ≤ lim then newL mu ((List.range n.toNat).map fun i => .int (i : Nat)) s1 else none) = some (d, s') := h
    by_cases hn : -(lim : Int) ≤ n ∧ n ≤ lim
    · rw [if_pos hn] at h
      obtain ⟨z1, z2⟩ := newL_post r1 rg_rv h (q.ext x1 r1)
      have hl : (lim : Int) = 100000 := rfl
      exact ⟨n, rfl, ⟨by omega, by omega, by omega, by omega, by omega⟩, z2⟩
    · rw [if_neg hn] at h
      cases h
  | _ => cases h
theorem se_tupRg {mu : Bool} {p p2 pos2 : Pos} (hc : X.calm = true) (hg : Gl X "tuple") (hm : X.mg "tuple" = none) (hg2 : Gl X "range") (hm2 : X.mg "range" = none) (ha : PE X a (tE (qx X τ) ra)) (hs : starEach [a] X.env = (false, eval a X.env) :: starEach [] X.env) :
    PE X (.Call (.Name "tuple" p) [.Call (.Name "range" p2) [a] [] pos2] [] pos) (tE (qx X τ) fun env s => bd (bd (ra env s) fun x s1 => bd (some ([], s1)) fun xs s2 => some (x :: xs, s2)) (biD .tupRg mu)) := by
  refine pe_imp (pe_tupRg hc hg hm (prg_1 hg2 hm2 ha hs) rfl) fun σ H Q ⟨φ, env, s, d, s', r, e, h, q⟩ => ?_
  obtain ⟨ds, s1, h1, h⟩ := bd_inv h
  obtain ⟨x, s2, h2, h1⟩ := bd_inv h1
  cases h1
  refine tE_go r e h2 fun v H1 φ1 x1 r1 e1 hv => ?_
  cases x with
  | int n =>
    cases hv
    have h : (if -(lim : Int) ≤ n ∧ n ≤ lim then newT ((List.range n.toNat).map fun i => .int (i : Nat)) s1 else none) = some (d, s') := h
    by_cases hn : -(lim : Int) ≤ n ∧ n ≤ lim
    · rw [if_pos hn] at h
      obtain ⟨z1, z2⟩ := newT_post r1 rg_rv h (q.ext x1 r1)
      have hl : (lim : Int) = 100000 := rfl
      exact ⟨n, rfl, ⟨by omega, by omega, by omega, by omega, by omega⟩, z2⟩
    · rw [if_neg hn] at h
      cases h
  | _ => cases h

/-! ### a conditional as a test -/
theorem pt_ifT {tc ta tb : TT} (hc : PT X c tc) (ha : PT X a ta) (hb : PT X b tb) : PT X (.IfExp c a b pos) (fun σ H Q => tc σ H fun k H1 => if k = true then ta σ H1 Q else tb σ H1 Q) := by
  refine ⟨fun pins s σ H Q I h => ?_⟩
  show wpAny _ _ (do if ← isTrue c X.env (eval c X.env) then isTrue a X.env (eval a X.env) else isTrue b X.env (eval b X.env)) _ _ s
  refine wpAny_bind (thn (hc.run pins s σ H _ I h) fun k s1 ⟨H1, I1, q1⟩ => ?_)
  cases k with
  | true => exact ha.run pins s1 σ H1 Q I1 q1
  | false => exact hb.run pins s1 σ H1 Q I1 q1
theorem st_ite (hc : PT X c (tT (qx X τ) rc)) (ha : PT X a (tT (qx X τ) ra)) (hb : PT X b (tT (qx X τ) rb)) : PT X (.IfExp c a b pos) (tT (qx X τ) fun env s => bd (rc env s) fun x s1 => match truD s1 x with
    | some true => ra env s1
    | some false => rb env s1
    | none => none) := by
  refine pt_imp (pt_ifT hc ha hb) fun σ H Q ⟨φ, env, s, d, s', b', r, e, h, hb', q⟩ => ?_
  obtain ⟨x, s1, h1, h⟩ := bd_inv h
  cases hb : truD s1 x with
  | none => rw [hb] at h; cases h
  | some k =>
    rw [hb] at h
    refine tT_go r e h1 hb fun H1 φ1 x1 r1 e1 => ?_
    cases k with
    | true => exact iteT ⟨φ1, _, s1, d, s', b', r1, e1, h, hb', fun H' φ' x' r' => q H' φ' (x1.trans r1.cm x') r'⟩
    | false => exact iteF ⟨φ1, _, s1, d, s', b', r1, e1, h, hb', fun H' φ' x' r' => q H' φ' (x1.trans r1.cm x') r'⟩
end
end Kp

/-! Kp, part L: statements. Own work. -/
namespace Kp
open PySem PySem.Spec PyProof.Rows L2

def PostS (K : Kq) (φ : Ph) (n : Nat) (H : Hp) (fl : Fl) (env' : Env) (s' : S) (D : Ends) : Prop := ∀ σ' H' φ', Ext φ n H φ' s'.length H' → Rel K φ' s' H' → EnvR K φ' s'.length H' σ' env' → match fl with
  | .nx => D.nx σ' H'
  | .rt d => ∀ v, RV K φ' s'.length H' v d → D.rt v H'
  | .bk => D.bk σ' H'
  | .ct => D.ct σ' H'
abbrev SR := Env → S → Option (Fl × Env × S)
def tS (K : Kq) (r : SR) : TS := fun D σ H => ∃ φ env s fl env' s', Rel K φ s H ∧ EnvR K φ s.length H σ env ∧ r env s = some (fl, env', s') ∧ PostS K φ s.length H fl env' s' D
section
variable {X : Cx} {pos pos' : Pos} {o e a b c tg : Expr} {ro ra rb rc re : ER} {st : Stmt} {sts : List Stmt}
theorem ps_imp {t t' : TS} (h : PS X st t) (k : ∀ D σ H, t' D σ H → t D σ H) : PS X st t' := ⟨fun pins s σ H D I hw => h.run pins s σ H D I (k D σ H hw)⟩
theorem pss_imp {t t' : TS} (h : PSs X sts t) (k : ∀ D σ H, t' D σ H → t D σ H) : PSs X sts t' := ⟨fun pins s σ H D I hw => h.run pins s σ H D I (k D σ H hw)⟩
theorem PostS.ext {K : Kq} {φ φ1 : Ph} {n : Nat} {H H1 : Hp} {s1 s' : S} {fl : Fl} {env' : Env} {D : Ends} (x : Ext φ n H φ1 s1.length H1) (r : Rel K φ1 s1 H1) (h : PostS K φ n H fl env' s' D) : PostS K φ1 s1.length H1 fl env' s' D :=
  fun σ' H' φ' x' r' e' => h σ' H' φ' (x.trans r.cm x') r' e'
theorem ss_asg {t : Tg} (he : PE X e (tE (qx X τ) re)) (hg : PG X tg (tG (qx X τ) t)) (hs : swapsWithSole [tg] e pos.line X.env = pure false) (hw : swappedStores [tg] e X.env = pure none) (h1 : (assignEach [tg] X.env).map (·.2) = [assign tg X.env]) :
    PS X (.Assign [tg] e pos) (tS (qx X τ) fun env s => match re env s with
    | some (x, s1) => (asgT t x env).map fun env' => (.nx, env', s1)
    | none => none) := by
  refine ps_imp (ps_asg he hg hs hw h1) fun D σ H ⟨φ, env, s, fl, env', s', r, e, h, q⟩ => ?_
  dsimp only at h
  cases h2 : re env s with
  | none => rw [h2] at h; cases h
  | some p =>
    obtain ⟨x, s1⟩ := p
    rw [h2] at h
    have h : (asgT t x env).map (fun env' => (Fl.nx, env', s1)) = some (fl, env', s') := h
    cases h3 : asgT t x env with
    | none => rw [h3] at h; cases h
    | some env1 =>
      rw [h3] at h
      cases h
      refine tE_go r e h2 fun v H1 φ1 x1 r1 e1 hv => ?_
      exact ⟨φ1, env, _, x, _, r1, e1, hv, h3, fun σ' e' _ => q σ' H1 φ1 x1 r1 e'⟩
theorem ss_asgLc {i : Nat} {y : Str} {py : Pos} {elt iter : Expr} {ifs : List Expr} {scope : Scope} {own : List (Str × Nat)} {t : Tg} {ri : IR} {rt : Env → S → Option (Bool × S)} {mu : Bool} {spos : Pos} (hc : X.calm = true) (hN : X.N.Nodup) (hy : X.N[i]? = some y) (hyl : X.env.scope.names.lookup y = some .local)
    (hsw : swapsWith (.ListComp elt [⟨tg, iter, ifs, 0⟩] scope pos) (some (.Name y py)) spos.line X.env = pure true) (hi : PI X tg iter (tI (qx X τ) ri)) (ok : BlkOk X.N X.env.scope scope own)
    (hg : ∀ (s : Shared) (H : Hp) (C : Addr) (cl : List (Str × Addr)) (fp : List Addr), PG (X.blk s H scope (compEnvC scope cl C X.env) fp) tg (tG (qx X τ) t)) (ht : ∀ (s : Shared) (H : Hp) (C : Addr) (cl : List (Str × Addr)) (fp : List Addr), PTs (X.blk s H scope (compEnvC scope cl C X.env) fp) ifs (tQ (qx X τ) rt))
    (he : ∀ (s : Shared) (H : Hp) (C : Addr) (cl : List (Str × Addr)) (fp : List Addr), PE (X.blk s H scope (compEnvC scope cl C X.env) fp) elt (tE (qx X τ) re)) (hs : ∀ x, foldedSetIterable iter X.env x = pure x) (hsl : ∀ i ∈ slots t, i ∈ own.map (·.2)) :
    PS X (.Assign [.Name y py] (.ListComp elt [⟨tg, iter, ifs, 0⟩] scope pos) spos) (tS (qx X τ) fun env s => match (bd (ri env s) fun p s1 => bd (compL (stepL t (own.map (·.2)) rt re env) p.2 p.1 s1) (newL mu)) with
    | some (x, s1) => some (.nx, env.set i (some x), s1)
    | none => none) := by
  refine ps_imp (ps_setLc hc hN hy hyl hsw hi ok hg ht he hs) fun D σ H ⟨φ, env, s, fl, env', s', r, e, h, q⟩ => ?_
  dsimp only at h
  cases h2 : (bd (ri env s) fun p s1 => bd (compL (stepL t (own.map (·.2)) rt re env) p.2 p.1 s1) (newL mu)) with
  | none => rw [h2] at h; cases h
  | some p =>
    obtain ⟨x, s1⟩ := p
    rw [h2] at h
    cases h
    refine lc_read hsl r e h2 fun v H1 φ1 x1 r1 hv => ?_
    exact q _ H1 φ1 x1 r1 ((e.mono r.cm x1).set hv i)
/-- a, b, c = x, y, z with plain local names -/
theorem ps_par3 {i j k : Nat} {x y z : Str} {a b c : Expr} {ta : TA} {px py pz pt : Pos} {kt k2 pt2} (hc : X.calm = true) (hN : X.N.Nodup) (hi : X.N[i]? = some x) (hj : X.N[j]? = some y) (hk : X.N[k]? = some z) (hij : i ≠ j) (hik : i ≠ k) (hjk : j ≠ k)
    (hx : X.env.scope.names.lookup x = some .local) (hy : X.env.scope.names.lookup y = some .local) (hz : X.env.scope.names.lookup z = some .local) (ha : PA X [a, b, c] ta)
    (hw : swappedStores [.Tuple [.Name x px, .Name y py, .Name z pz] kt pt] (.Tuple [a, b, c] k2 pt2) X.env = pure (some [x, y, z]))
    (hs : swapsWithSole [.Tuple [.Name x px, .Name y py, .Name z pz] kt pt] (.Tuple [a, b, c] k2 pt2) pos.line X.env = pure false) :
    PS X (.Assign [.Tuple [.Name x px, .Name y py, .Name z pz] kt pt] (.Tuple [a, b, c] k2 pt2) pos) (fun D σ H => ta σ H fun vs H1 => ∃ u v w, vs = [u, v, w] ∧ D.nx (((σ.set i (some u)).set j (some v)).set k (some w)) H1) := by
  refine ⟨fun pins s σ H D I h => ?_⟩
  rw [exec_Assign_arm]
  refine wpAny_bind (wpAny_standAt ?_)
  rw [hs]
  refine wpAny_bind (wpAny_pure ?_)
  rw [if_neg (by decide)]
  refine wpAny_bind (Tuple_ (thn (ha.run _ pins s σ H _ I h) fun us s1 ⟨vs, H1, I1, r1, q1⟩ => ?_))
  obtain ⟨v, w, t, e1, q1⟩ := q1
  subst e1
  obtain ⟨u1, u2, u3, rfl, rv, rw', rt⟩ : ∃ u1 u2 u3, us = [u1, u2, u3] ∧ RelV v u1 ∧ RelV w u2 ∧ RelV t u3 := by
    cases r1 with
    | cons p q =>
      cases q with
      | cons p' q' =>
        cases q' with
        | cons p'' q'' =>
          cases q''
          exact ⟨_, _, _, rfl, p, p', p''⟩
  refine wpAny_newObj_type ?_ (by show 3 ≤ sizeLine; decide)
  have I2 : Inv X pins σ H1 { s1 with heap := s1.heap.push { cls := .type "tuple", data := .seq [u1, u2, u3].toArray } } := I1.kept (t' := s1.toks) fun b o e => Heap.get?_push_of_some _ e
  rw [hw]
  refine wpAny_bind (wpAny_pure ?_)
  show wpAny (model X.prog X.w) X.A (do rule "assign.swapped-stores"; let items ← unpackItems (.ref s1.heap.objs.size) 3 none; assignInOrder [fun v => bindName X.env z v, fun v => bindName X.env y v, fun v => bindName X.env x v] items.reverse; pure Flow.next) _ _ _
  refine wpAny_bind (wpAny_rule (wpAny_bind (unpackItems_tuple (items := #[u1, u2, u3]) (I.ok.hd hc) (IsTup.new s1.heap _) fun h' hx' => ?_)))
  have I3 := I2.kept (h' := h') (t' := s1.toks) fun b o e => hx' b o (Nat.ne_of_lt (Heap.lt_size e)) e
  show wpAny _ _ (assignInOrder [fun v => bindName X.env z v, fun v => bindName X.env y v, fun v => bindName X.env x v] [u3, u2, u1] >>= fun _ => pure Flow.next) _ _ _
  refine wpAny_bind (assignInOrder_cons (wpAny_bindName (store_ok I3 hN hk (.inl hz) rt (fun s2 I4 => ?_) (.inr hz))))
  refine assignInOrder_cons (wpAny_bindName (store_ok I4 hN hj (.inl hy) rw' (fun s3 I5 => ?_) (.inr hy)))
  refine assignInOrder_cons (wpAny_bindName (store_ok I5 hN hi (.inl hx) rv (fun s4 I6 => assignInOrder_nil (wpAny_pure ?_)) (.inr hx)))
  rw [List.set_comm _ _ (Ne.symm hij), List.set_comm _ _ (Ne.symm hik), List.set_comm _ _ (Ne.symm hjk)] at I6
  exact ⟨_, H1, I6, q1⟩
theorem ss_par2 {i j : Nat} {x y : Str} {a b : Expr} {rr : Env → S → Option (List D × S)} {px py pt : Pos} {kt k2 : Nat} {pt2 : Pos} (hc : X.calm = true) (hN : X.N.Nodup) (hi : X.N[i]? = some x) (hj : X.N[j]? = some y) (hij : i ≠ j)
    (hx : X.env.scope.names.lookup x = some .local) (hy : X.env.scope.names.lookup y = some .local) (ha : PA X [a, b] (tA (qx X τ) rr))
    (hw : swappedStores [.Tuple [.Name x px, .Name y py] kt pt] (.Tuple [a, b] k2 pt2) X.env = pure (some [x, y]))
    (hs : swapsWithSole [.Tuple [.Name x px, .Name y py] kt pt] (.Tuple [a, b] k2 pt2) pos.line X.env = pure false) :
    PS X (.Assign [.Tuple [.Name x px, .Name y py] kt pt] (.Tuple [a, b] k2 pt2) pos) (tS (qx X τ) fun env s => match rr env s with
    | some (ds, s1) => if ds.length = 2 then some (.nx, setAll env [i, j] ds, s1) else none
    | none => none) := by
  refine ps_imp (ps_par hc hN hi hj hij hx hy ha hw hs) fun D σ H ⟨φ, env, s, fl, env', s', r, e, h, q⟩ => ?_
  dsimp only at h
  cases h2 : rr env s with
  | none => rw [h2] at h; cases h
  | some p =>
    obtain ⟨ds, s1⟩ := p
    rw [h2] at h
    have h : (if ds.length = 2 then some (Fl.nx, setAll env [i, j] ds, s1) else none) = some (fl, env', s') := h
    by_cases hl : ds.length = 2
    · rw [if_pos hl] at h
      cases h
      match ds, hl with
      | [d1, d2], _ =>
        refine tA_go r e h2 fun vs H1 φ1 x1 r1 e1 hv => ?_
        obtain ⟨v, w, rfl, rv, rw'⟩ := rvs2 hv
        exact ⟨v, w, rfl, q _ H1 φ1 x1 r1 ((e1.set rv i).set rw' j)⟩
    · rw [if_neg hl] at h
      cases h
theorem ss_par3 {i j k : Nat} {x y z : Str} {a b c : Expr} {rr : Env → S → Option (List D × S)} {px py pz pt : Pos} {kt k2 : Nat} {pt2 : Pos} (hc : X.calm = true) (hN : X.N.Nodup) (hi : X.N[i]? = some x) (hj : X.N[j]? = some y) (hk : X.N[k]? = some z) (hij : i ≠ j) (hik : i ≠ k) (hjk : j ≠ k)
    (hx : X.env.scope.names.lookup x = some .local) (hy : X.env.scope.names.lookup y = some .local) (hz : X.env.scope.names.lookup z = some .local) (ha : PA X [a, b, c] (tA (qx X τ) rr))
    (hw : swappedStores [.Tuple [.Name x px, .Name y py, .Name z pz] kt pt] (.Tuple [a, b, c] k2 pt2) X.env = pure (some [x, y, z]))
    (hs : swapsWithSole [.Tuple [.Name x px, .Name y py, .Name z pz] kt pt] (.Tuple [a, b, c] k2 pt2) pos.line X.env = pure false) :
    PS X (.Assign [.Tuple [.Name x px, .Name y py, .Name z pz] kt pt] (.Tuple [a, b, c] k2 pt2) pos) (tS (qx X τ) fun env s => match rr env s with
    | some (ds, s1) => if ds.length = 3 then some (.nx, setAll env [i, j, k] ds, s1) else none
    | none => none) := by
  refine ps_imp (ps_par3 hc hN hi hj hk hij hik hjk hx hy hz ha hw hs) fun D σ H ⟨φ, env, s, fl, env', s', r, e, h, q⟩ => ?_
  dsimp only at h
  cases h2 : rr env s with
  | none => rw [h2] at h; cases h
  | some p =>
    obtain ⟨ds, s1⟩ := p
    rw [h2] at h
    have h : (if ds.length = 3 then some (Fl.nx, setAll env [i, j, k] ds, s1) else none) = some (fl, env', s') := h
    by_cases hl : ds.length = 3
    · rw [if_pos hl] at h
      cases h
      match ds, hl with
      | [d1, d2, d3], _ =>
        refine tA_go r e h2 fun vs H1 φ1 x1 r1 e1 hv => ?_
        cases hv with
        | cons h1 hv =>
          obtain ⟨v, w, rfl, rv, rw'⟩ := rvs2 hv
          exact ⟨_, v, w, rfl, q _ H1 φ1 x1 r1 (((e1.set h1 i).set rv j).set rw' k)⟩
    · rw [if_neg hl] at h
      cases h
/-- o[i] = v -/
theorem ss_sset (hu : X.A.units + 70 < cLine) {p2 : Pos} (he : PE X e (tE (qx X τ) re)) (ho : PE X o (tE (qx X τ) ro)) (ha : PE X a (tE (qx X τ) ra)) (hs : swapsWithSole [.Subscript o a p2] e pos.line X.env = pure false) (hw : swappedStores [.Subscript o a p2] e X.env = pure none)
    (has : ∀ v, assign (.Subscript o a p2) X.env v = (do
      let ov ← holding [v] (eval o X.env)
      let iv ← holding [v, ov] (eval a X.env)
      standAt p2
      holding [v, ov, iv] (setItem ov iv v)
      release [v, ov, iv] [])) :
    PS X (.Assign [.Subscript o a p2] e pos) (tS (qx X τ) fun env s => match re env s with
    | some (x, s1) => match ro env s1 with
      | some (y, s2) => match ra env s2 with
        | some (z, s3) => (setD y z x s3).map fun s4 => (.nx, env, s4)
        | none => none
      | none => none
    | none => none) := by
  have hset : PSet X (fun ov iv x H Q => ∃ φ s d e f s', Rel (qx X τ) φ s H ∧ RV (qx X τ) φ s.length H ov d ∧ RV (qx X τ) φ s.length H iv e ∧ RV (qx X τ) φ s.length H x f ∧ setD d e f s = some s' ∧ ∀ H', Ext φ s.length H φ s'.length H' → Rel (qx X τ) φ s' H' → Q H') := by
    intro pins sh σ H ov iv x o' i' v' Q I r1 r2 r3 ⟨φ, s, d, e, f, s', r, hd, he, hf, h, q⟩
    exact set_ok hu I r1 r2 r3 r hd he hf h q
  refine ps_imp (ps_asg he (pg_sub ho ha hset has) hs hw rfl) fun D σ H ⟨φ, env, s, fl, env', s', r, e, h, q⟩ => ?_
  dsimp only at h
  cases h1 : re env s with
  | none => rw [h1] at h; cases h
  | some p =>
    obtain ⟨x, s1⟩ := p
    rw [h1] at h
    cases h2 : ro env s1 with
    | none =>
      have h : (match ro env s1 with
      | some (y, s2) => match ra env s2 with
        | some (z, s3) => (setD y z x s3).map fun s4 => (Fl.nx, env, s4)
        | none => none
      | none => none) = some (fl, env', s') := h
      rw [h2] at h; cases h
    | some p =>
      obtain ⟨y, s2⟩ := p
      have h : (match ro env s1 with
      | some (y, s2) => match ra env s2 with
        | some (z, s3) => (setD y z x s3).map fun s4 => (Fl.nx, env, s4)
        | none => none
      | none => none) = some (fl, env', s') := h
      rw [h2] at h
      have h : (match ra env s2 with
        | some (z, s3) => (setD y z x s3).map fun s4 => (Fl.nx, env, s4)
        | none => none) = some (fl, env', s') := h
      cases h3 : ra env s2 with
      | none => rw [h3] at h; cases h
      | some p =>
        obtain ⟨z, s3⟩ := p
        rw [h3] at h
        have h : (setD y z x s3).map (fun s4 => (Fl.nx, env, s4)) = some (fl, env', s') := h
        cases h4 : setD y z x s3 with
        | none => rw [h4] at h; cases h
        | some s4 =>
          rw [h4] at h
          cases h
          refine tE_go r e h1 fun v H1 φ1 x1 r1 e1 hv => tE_go r1 e1 h2 fun w H2 φ2 x2 r2 e2 hw => tE_go r2 e2 h3 fun u H3 φ3 x3 r3 e3 hu => ?_
          have x23 := x2.trans r2.cm x3
          refine ⟨φ3, s3, y, z, x, _, r3, hw.mono r2.cm x3, hu, hv.mono r1.cm x23, h4, fun H4 x4 r4 => ?_⟩
          exact q _ H4 φ3 ((x1.trans r1.cm x23).trans r3.cm x4) r4 (e3.mono r3.cm x4)
/-- name op= e -/
theorem ss_aug {i : Nat} {x : Str} {op : Operator} {g : D → D → S → Option (D × S)} (hN : X.N.Nodup) (hi : X.N[i]? = some x) (hx : Loc X.env.scope x) (he : PE X e (tE (qx X τ) re)) (ho : OpS X (inplaceOp op) g) (hf : X.fn x = true ∨ X.env.scope.names.lookup x = some .local) :
    PS X (.AugAssign (.Name x pos') op e pos) (tS (qx X τ) fun env s => match env[i]? with
    | some (some x) => match re env s with
      | some (y, s1) => match g x y s1 with
        | some (z, s2) => some (.nx, env.set i (some z), s2)
        | none => none
      | none => none
    | _ => none) := by
  have hp : PIp X op (rOp (qx X τ) g) := by
    intro pins s σ H x y v u Q I rx ry ⟨φ, st, d, e, d', s', r, hx, hy, hg, q⟩
    exact ho pins s σ H x y v u Q φ st d e d' s' I rx ry r hx hy hg q
  refine ps_imp (ps_aug hN hi hx he hp hf) fun D σ H ⟨φ, env, s, fl, env', s', r, e, h, q⟩ => ?_
  dsimp only at h
  cases h1 : env[i]? with
  | none => rw [h1] at h; cases h
  | some o1 => cases o1 with
    | none => rw [h1] at h; cases h
    | some dx =>
      rw [h1] at h
      have h : (match re env s with
      | some (y, s1) => match g dx y s1 with
        | some (z, s2) => some (Fl.nx, env.set i (some z), s2)
        | none => none
      | none => none) = some (fl, env', s') := h
      cases h2 : re env s with
      | none => rw [h2] at h; cases h
      | some p =>
        obtain ⟨y, s1⟩ := p
        rw [h2] at h
        have h : (match g dx y s1 with
        | some (z, s2) => some (Fl.nx, env.set i (some z), s2)
        | none => none) = some (fl, env', s') := h
        cases h3 : g dx y s1 with
        | none => rw [h3] at h; cases h
        | some p =>
          obtain ⟨z, s2⟩ := p
          rw [h3] at h
          cases h
          obtain ⟨v, hv1, hv2⟩ := e.2 i dx h1
          refine ⟨v, hv1, tE_go r e h2 fun w H1 φ1 x1 r1 e1 hw => ?_⟩
          refine ⟨φ1, s1, dx, y, z, _, r1, hv2.mono r.cm x1, hw, h3, fun u H2 φ2 x2 r2 hu => ?_⟩
          exact q _ H2 φ2 (x1.trans r1.cm x2) r2 ((e1.mono r1.cm x2).set hu i)
theorem ss_exp (he : PE X e (tE (qx X τ) re)) (hs : swapsWith e none pos.line X.env = pure false) : PS X (.Expr e pos) (tS (qx X τ) fun env s => match re env s with
    | some (_, s1) => some (.nx, env, s1)
    | none => none) := by
  refine ps_imp (ps_expr he hs) fun D σ H ⟨φ, env, s, fl, env', s', r, e, h, q⟩ => ?_
  dsimp only at h
  cases h1 : re env s with
  | none => rw [h1] at h; cases h
  | some p =>
    obtain ⟨x, s1⟩ := p
    rw [h1] at h
    cases h
    exact tE_go r e h1 fun v H1 φ1 x1 r1 e1 hv => q _ H1 φ1 x1 r1 e1
theorem ss_ret (he : PE X e (tE (qx X τ) re)) : PS X (.Return (some e) pos) (tS (qx X τ) fun env s => match re env s with
    | some (x, s1) => some (.rt x, env, s1)
    | none => none) := by
  refine ps_imp (ps_ret he) fun D σ H ⟨φ, env, s, fl, env', s', r, e, h, q⟩ => ?_
  dsimp only at h
  cases h1 : re env s with
  | none => rw [h1] at h; cases h
  | some p =>
    obtain ⟨x, s1⟩ := p
    rw [h1] at h
    cases h
    exact tE_go r e h1 fun v H1 φ1 x1 r1 e1 hv => q σ H1 φ1 x1 r1 e1 v hv
theorem ss_retn : PS X (.Return none pos) (tS (qx X τ) fun env s => some (.rt .non, env, s)) :=
  ps_imp ps_retN fun D σ H ⟨φ, env, s, fl, env', s', r, e, h, q⟩ => by
    cases h
    exact q σ H φ Ext.refl r e _ .non
theorem ss_if {aa bb : List Stmt} {sa sb : SR} (hc : PT X c (tT (qx X τ) rc)) (ha : PSs X aa (tS (qx X τ) sa)) (hb : PSs X bb (tS (qx X τ) sb)) : PS X (.If c aa bb pos) (tS (qx X τ) fun env s => match rc env s with
    | some (x, s1) => match truD s1 x with
      | some true => sa env s1
      | some false => sb env s1
      | none => none
    | none => none) := by
  refine ps_imp (ps_if hc ha hb) fun D σ H ⟨φ, env, s, fl, env', s', r, e, h, q⟩ => ?_
  dsimp only at h
  cases h1 : rc env s with
  | none => rw [h1] at h; cases h
  | some p =>
    obtain ⟨x, s1⟩ := p
    rw [h1] at h
    have h : (match truD s1 x with
      | some true => sa env s1
      | some false => sb env s1
      | none => none) = some (fl, env', s') := h
    cases hb : truD s1 x with
    | none => rw [hb] at h; cases h
    | some k =>
      rw [hb] at h
      refine tT_go r e h1 hb fun H1 φ1 x1 r1 e1 => ?_
      cases k with
      | true => exact iteT ⟨φ1, env, s1, fl, env', s', r1, e1, h, q.ext x1 r1⟩
      | false => exact iteF ⟨φ1, env, s1, fl, env', s', r1, e1, h, q.ext x1 r1⟩
theorem ss_brk : PS X (.Break pos) (tS (qx X τ) fun env s => some (.bk, env, s)) := ps_imp ps_break fun D σ H ⟨φ, env, s, fl, env', s', r, e, h, q⟩ => by
  cases h
  exact q σ H φ Ext.refl r e
theorem ss_cnt : PS X (.Continue pos) (tS (qx X τ) fun env s => some (.ct, env, s)) := ps_imp ps_continue fun D σ H ⟨φ, env, s, fl, env', s', r, e, h, q⟩ => by
  cases h
  exact q σ H φ Ext.refl r e
theorem ss_pas : PS X (.Pass pos) (tS (qx X τ) fun env s => some (.nx, env, s)) := ps_imp ps_pass fun D σ H ⟨φ, env, s, fl, env', s', r, e, h, q⟩ => by
  cases h
  exact q σ H φ Ext.refl r e
theorem sss_nil : PSs X [] (tS (qx X τ) fun env s => some (.nx, env, s)) := pss_imp pss_nil fun D σ H ⟨φ, env, s, fl, env', s', r, e, h, q⟩ => by
  cases h
  exact q σ H φ Ext.refl r e
theorem sss_cons {s1 s2 : SR} (h1 : PS X st (tS (qx X τ) s1)) (h2 : PSs X sts (tS (qx X τ) s2)) : PSs X (st :: sts) (tS (qx X τ) fun env s => match s1 env s with
    | some (.nx, env', s') => s2 env' s'
    | r => r) := by
  refine pss_imp (pss_cons h1 h2) fun D σ H ⟨φ, env, s, fl, env', s', r, e, h, q⟩ => ?_
  dsimp only at h
  cases hh : s1 env s with
  | none => rw [hh] at h; cases h
  | some p =>
    obtain ⟨f1, env1, st1⟩ := p
    rw [hh] at h
    refine ⟨φ, env, s, f1, env1, st1, r, e, hh, fun σ' H' φ' x' r' e' => ?_⟩
    cases f1 with
    | nx => exact ⟨φ', env1, st1, fl, env', s', r', e', h, q.ext x' r'⟩
    | rt d => cases h; exact q σ' H' φ' x' r' e'
    | bk => cases h; exact q σ' H' φ' x' r' e'
    | ct => cases h; exact q σ' H' φ' x' r' e'
/-! ### loops -/
theorem ss_while {bb : List Stmt} {sb : SR} (hx : X.xe = fun _ _ => False) (hc : PT X c (tT (qx X τ) rc)) (hb : PSs X bb (tS (qx X τ) sb)) (fuel : Nat) : PS X (.While c bb [] pos) (tS (qx X τ) fun env s => whlL (fun env s => bd (rc env s) fun x s1 => tru s1 x) sb fuel env s) := by
  refine ps_imp (ps_while (by rw [hx]; exact PassesOwn.never) hc hb) fun D σ H ⟨φ0, env0, s0, fl, env', s', r0, e0, h0, q⟩ => ?_
  dsimp only at h0
  refine ⟨fun m σ H' => ∃ φ env s, Ext φ0 s0.length H φ s.length H' ∧ Rel (qx X τ) φ s H' ∧ EnvR (qx X τ) φ s.length H' σ env ∧ whlL (fun env s => bd (rc env s) fun x s1 => tru s1 x) sb m env s = some (fl, env', s'), ⟨fuel, φ0, env0, s0, Ext.refl, r0, e0, h0⟩, ?_⟩
  rintro m σ1 H1 ⟨φ1, env1, s1, x1, r1, e1, h1⟩
  cases m with
  | zero => cases h1
  | succ m =>
    unfold whlL at h1
    cases ht : (bd (rc env1 s1) fun x s1 => tru s1 x) with
    | none => rw [ht] at h1; cases h1
    | some p =>
      obtain ⟨k, s2⟩ := p
      rw [ht] at h1
      obtain ⟨x, s3, h3, ht⟩ := bd_inv ht
      unfold tru at ht
      cases hk : truD s3 x with
      | none => rw [hk] at ht; cases ht
      | some k' =>
        rw [hk] at ht
        cases ht
        refine tT_go r1 e1 h3 hk fun H2 φ2 x2 r2 e2 => ?_
        have x02 := x1.trans r1.cm x2
        cases k with
        | false =>
          cases h1
          exact iteF (q σ1 H2 φ2 x02 r2 e2)
        | true =>
          refine iteT ?_
          have h1 : (match sb env1 s2 with
            | some (.nx, env', s') => whlL (fun env s => bd (rc env s) fun x s1 => tru s1 x) sb m env' s'
            | some (.ct, env', s') => whlL (fun env s => bd (rc env s) fun x s1 => tru s1 x) sb m env' s'
            | some (.bk, env', s') => some (.nx, env', s')
            | some (.rt v, env', s') => some (.rt v, env', s')
            | none => none) = some (fl, env', s') := h1
          cases h4 : sb env1 s2 with
          | none => rw [h4] at h1; cases h1
          | some p =>
            obtain ⟨f4, env4, s4⟩ := p
            rw [h4] at h1
            refine ⟨fun σ H' => ∃ φ env s, Ext φ0 s0.length H φ s.length H' ∧ Rel (qx X τ) φ s H' ∧ EnvR (qx X τ) φ s.length H' σ env ∧ whlL (fun env s => bd (rc env s) fun x s1 => tru s1 x) sb m env s = some (fl, env', s'), fun σ' H' z => ⟨m, Nat.lt_succ_self _, z⟩, ?_⟩
            refine ⟨φ2, env1, s2, f4, env4, s4, r2, e2, h4, fun σ' H' φ' x' r' e' => ?_⟩
            have x03 := x02.trans r2.cm x'
            cases f4 with
            | nx => exact ⟨φ', env4, s4, x03, r', e', h1⟩
            | ct => exact ⟨φ', env4, s4, x03, r', e', h1⟩
            | bk => cases h1; exact q σ' H' φ' x03 r' e'
            | rt d => cases h1; exact q σ' H' φ' x03 r' e'
theorem ss_for {iter : Expr} {bb : List Stmt} {t : Tg} {ri : IR} {sb : SR} (hx : X.xe = fun _ _ => False) (hc : X.calm = true) (hi : PI X tg iter (tI (qx X τ) ri)) (hg : PG X tg (tG (qx X τ) t)) (hb : PSs X bb (tS (qx X τ) sb)) (hs : ∀ x, foldedSetIterable iter X.env x = pure x) :
    PS X (.For tg iter bb [] pos) (tS (qx X τ) fun env s => match ri env s with
    | some ((ds, lk), s1) => forL (fun d env s => match asgT t d env with
        | some env' => sb env' s
        | none => none) lk ds env s1
    | none => none) := by
  refine ps_imp (ps_for (by rw [hx]; exact PassesOwn.never) hc hi hg hb hs) fun D σ H ⟨φ0, env0, s0, fl, env', s', r0, e0, h0, q⟩ => ?_
  dsimp only at h0
  cases h1 : ri env0 s0 with
  | none => rw [h1] at h0; cases h0
  | some p =>
    obtain ⟨⟨ds, lk⟩, s1⟩ := p
    rw [h1] at h0
    generalize hstep : (fun d env s => match asgT t d env with
        | some env' => sb env' s
        | none => none : Kp.D → Env → S → Option (Fl × Env × S)) = step at h0
    have h0 : forL step lk ds env0 s1 = some (fl, env', s') := h0
    refine ⟨φ0, env0, s0, ds, lk, s1, r0, e0, h1, fun J H1 φ1 x1 r1 l1 it => ?_⟩
    refine ⟨fun i m σ H' => m = ds.length - i ∧ i ≤ ds.length ∧ ∃ φ env s, Ext φ1 s1.length H1 φ s.length H' ∧ Rel (qx X τ) φ s H' ∧ EnvR (qx X τ) φ s.length H' σ env ∧ lkOk lk s = true ∧ forL step lk (ds.drop i) env s = some (fl, env', s'),
      ⟨ds.length, by simp, Nat.zero_le _, φ1, env0, s1, Ext.refl, r1, e0.mono r0.cm x1, l1, h0⟩, ?_⟩
    rintro i m σ2 H2 ⟨rfl, hi', φ2, env2, s2, x2, r2, e2, l2, h2⟩
    by_cases hlt : i < ds.length
    · have hdi : ds[i]? = some ds[i] := List.getElem?_eq_getElem hlt
      obtain ⟨hgo, hy⟩ := (it φ2 s2 H2 x2 r2 l2 i).2 _ hdi
      rw [List.drop_eq_getElem_cons hlt] at h2
      unfold forL at h2
      refine .inr ⟨hgo, fun σ H' => i + 1 ≤ ds.length ∧ ∃ φ env s, Ext φ1 s1.length H1 φ s.length H' ∧ Rel (qx X τ) φ s H' ∧ EnvR (qx X τ) φ s.length H' σ env ∧ lkOk lk s = true ∧ forL step lk (ds.drop (i + 1)) env s = some (fl, env', s'),
        fun σ' H' z => ⟨_, by omega, rfl, z⟩, fun v H3 y => ?_⟩
      obtain ⟨φ3, x3, r3, hv⟩ := hy v H3 y
      have e3 := e2.mono r2.cm x3
      cases h4 : step ds[i] env2 s2 with
      | none => rw [h4] at h2; cases h2
      | some p =>
        obtain ⟨f4, env4, s4⟩ := p
        rw [h4] at h2
        rw [← hstep] at h4
        dsimp only at h4
        cases h5 : asgT t ds[i] env2 with
        | none => rw [h5] at h4; cases h4
        | some env5 =>
          rw [h5] at h4
          refine ⟨φ3, env2, s2, ds[i], env5, r3, e3, hv, h5, fun σ5 e5 _ => ?_⟩
          refine ⟨φ3, env5, s2, f4, env4, s4, r3, e5, h4, fun σ' H' φ' x' r' e' => ?_⟩
          have x13 := (x2.trans r2.cm x3).trans r3.cm x'
          have x03 := x1.trans r1.cm x13
          cases f4 with
          | nx =>
            have h2 : (if lkOk lk s4 then forL step lk (ds.drop (i + 1)) env4 s4 else none) = some (fl, env', s') := h2
            by_cases hl : lkOk lk s4 = true
            · rw [if_pos hl] at h2
              exact ⟨hlt, φ', env4, s4, x13, r', e', hl, h2⟩
            · rw [if_neg hl] at h2
              cases h2
          | ct =>
            have h2 : (if lkOk lk s4 then forL step lk (ds.drop (i + 1)) env4 s4 else none) = some (fl, env', s') := h2
            by_cases hl : lkOk lk s4 = true
            · rw [if_pos hl] at h2
              exact ⟨hlt, φ', env4, s4, x13, r', e', hl, h2⟩
            · rw [if_neg hl] at h2
              cases h2
          | bk => cases h2; exact q σ' H' φ' x03 r' e'
          | rt d => cases h2; exact q σ' H' φ' x03 r' e'
    · have hd0 : ds.drop i = [] := List.drop_eq_nil_of_le (by omega)
      rw [hd0] at h2
      cases h2
      exact .inl ⟨(it φ2 _ H2 x2 r2 l2 i).1 (by omega), q σ2 H2 φ2 (x1.trans r1.cm x2) r2 e2⟩
end
end Kp

/-! Kp, part M: the check that a program text is such a word. Own work. -/
namespace Kp
open PySem PySem.Spec PyProof.Rows L2

structure Ct where
  N : List Str
  sc : Scope
  fn : Str → Bool
  gx : Bool
structure Gi where
  fns : List FnE
  cons : List Str

def glB (ct : Ct) (x : Str) : Bool := decide (ct.sc.names.lookup x = some .globalImplicit)
def visB (ct : Ct) (x : Str) : Bool := decide (ct.sc.names.lookup x = some .local) || decide (ct.sc.names.lookup x = some .cell) || decide (ct.sc.names.lookup x = some .free)
def stoB (ct : Ct) (x : Str) : Bool := decide (ct.sc.names.lookup x = some .local) || (decide (ct.sc.names.lookup x = some .cell) && ct.fn x)
def okName (x : Str) : Bool := !(x == ("__debug__" : Str)) && !(x == ("__classdict__" : Str)) && decide (x ≠ ("__name__" : Str))
def conB (c : Const) (d : D) : Bool := match c, d with
  | .int i, .int j => decide (i = j)
  | .bool i, .bl j => decide (i = j)
  | .none, .non => true
  | .str x, .str y => decide (x = y) && x.cps.all (· < 0x110000)
  | _, _ => false
def opB : BOp → Operator → Bool
  | .add _, .Add => true
  | .sub, .Sub => true
  | .mul _, .Mult => true
  | .mod, .Mod => true
  | .fdiv, .FloorDiv => true
  | .pow, .Pow => true
  | _, _ => false
def iopB : BOp → Operator → Bool
  | .add _, .Add => true
  | .sub, .Sub => true
  | .mul _, .Mult => true
  | .mod, .Mod => true
  | .fdiv, .FloorDiv => true
  | _, _ => false
def cmpB : COp → CmpOp → Bool
  | .eq, .Eq => true
  | .ne, .NotEq => true
  | .lt, .Lt => true
  | .le, .LtE => true
  | .gt, .Gt => true
  | .ge, .GtE => true
  | .isin, .In => true
  | .notin, .NotIn => true
  | .isb, .Is => true
  | .isnb, .IsNot => true
  | _, _ => false
def notStar : Expr → Bool
  | .Starred _ _ => false
  | _ => true
def notSlice : Expr → Bool
  | .Slice _ _ _ _ => false
  | _ => true
def notSet : Expr → Bool
  | .Set _ _ _ => false
  | _ => true
def notLst : Expr → Bool
  | .List _ _ => false
  | _ => true
def notCall0 : Expr → Bool
  | .Call (.Name _ _) [] [] _ => false
  | _ => true
def biN : Bi → Str × Nat
  | .len => ("len", 1)
  | .abs => ("abs", 1)
  | .int => ("int", 1)
  | .min2 => ("min", 2)
  | .max2 => ("max", 2)
  | .maxl => ("max", 1)
  | .minl => ("min", 1)
  | .sum => ("sum", 1)
  | .sorted => ("sorted", 1)
  | .list => ("list", 1)
  | .tuple => ("tuple", 1)
  | .dict => ("dict", 1)
  | _ => ("", 0)
def biB (b : Bi) (x : Str) (n : Nat) : Bool := decide (x = (biN b).1) && decide (n = (biN b).2) && decide (n ≠ 0)
def mtN : Mt → Str × Nat
  | .append => ("append", 1)
  | .pop => ("pop", 0)
  | .popAt => ("pop", 1)
  | .reverse => ("reverse", 0)
  | .get => ("get", 1)
  | .get2 => ("get", 2)
  | _ => ("", 40)
def mtB (m : Mt) (x : Str) (n : Nat) : Bool := decide (x = (mtN m).1) && decide (n = (mtN m).2) && decide (n < 30)
def bltNames : List Str := ["len", "abs", "int", "min", "max", "sum", "sorted", "list", "tuple", "range", "zip", "enumerate", "isinstance", "bool", "str", "all", "any", "dict", "set"]
def ownP (ct : Ct) (own : List Nat) : List (Str × Nat) := own.map fun i => ((ct.N[i]?).getD ("" : Str), i)
def Ct.blk (ct : Ct) (scope : Scope) : Ct := ⟨ct.N, relS scope ct.sc, fun x => scope.names.lookup x == some .cell, ct.gx⟩
def Ct.gen (ct : Ct) (scope : Scope) : Ct := ⟨ct.N, scope, fun x => scope.names.lookup x == some .cell, false⟩
mutual
def chkTg (ct : Ct) : Tg → Expr → Bool
  | .nm i, e => match e with
    | .Name x _ => decide (ct.N[i]? = some x) && stoB ct x
    | _ => false
  | .tp n ts, e => match e with
    | .Tuple es _ _ => decide (es.length = n) && chkTgs ct ts es
    | _ => false
def chkTgs (ct : Ct) : List Tg → List Expr → Bool
  | [], es => match es with
    | [] => true
    | _ => false
  | t :: ts, es => match es with
    | e :: es => chkTg ct t e && chkTgs ct ts es
    | [] => false
end
mutual
def chkE (gi : Gi) (ct : Ct) : E → Expr → Bool
  | .var i, e => match e with
    | .Name x _ => decide (ct.N[i]? = some x) && visB ct x && okName x
    | _ => false
  | .con d, e => match e with
    | .Constant c _ _ => conB c d
    | _ => false
  | .glo i, e => match e with
    | .Name x _ => decide (gi.cons[i]? = some x) && glB ct x && okName x
    | _ => false
  | .bin o a b, e => match e with
    | .BinOp l op r _ => opB o op && chkE gi ct a l && chkE gi ct b r
    | _ => false
  | .neg a, e => match e with
    | .UnaryOp .USub x _ => chkE gi ct a x
    | _ => false
  | .not a, e => match e with
    | .UnaryOp .Not x _ => chkE gi ct a x
    | _ => false
  | .and as, e => match e with
    | .BoolOp .And es _ => !es.isEmpty && chkEs gi ct as es
    | _ => false
  | .or as, e => match e with
    | .BoolOp .Or es _ => !es.isEmpty && chkEs gi ct as es
    | _ => false
  | .cmp o a b, e => match e with
    | .Compare l [op] [r] _ => cmpB o op && !behindInMarks op r && chkE gi ct a l && chkE gi ct b r
    | _ => false
  | .chn o1 o2 a b c, e => match e with
    | .Compare l [op1, op2] [r1, r2] _ => cmpB o1 op1 && cmpB o2 op2 && !lastMarks [op1, op2] [r1, r2] && chkE gi ct a l && chkE gi ct b r1 && chkE gi ct c r2
    | _ => false
  | .ite c a b, e => match e with
    | .IfExp t x y _ => chkE gi ct c t && chkE gi ct a x && chkE gi ct b y
    | _ => false
  | .idx a b, e => match e with
    | .Subscript l r _ => notSlice r && chkE gi ct a l && chkE gi ct b r
    | _ => false
  | .slc _ a lo hi, e => match e with
    | .Subscript l (.Slice lo' hi' none _) _ => chkE gi ct a l && chkO gi ct lo lo' && chkO gi ct hi hi'
    | _ => false
  | .tup as, e => match e with
    | .Tuple es _ _ => chkEs gi ct as es
    | _ => false
  | .lst _ as, e => match e with
    | .List es _ => chkEs gi ct as es
    | _ => false
  | .dnew, e => match e with
    | .Dict [] [] _ => true
    | _ => false
  | .call f as, e => match e with
    | .Call (.Name x _) args [] _ => (match gi.fns[f]? with
      | some fe => decide (fe.x = x)
      | none => false) && glB ct x && okName x && chkEs gi ct as args
    | _ => false
  | .callk f as ks nms perm, e => match e with
    | .Call (.Name x _) args kws _ => (match gi.fns[f]? with
      | some fe => decide (fe.x = x) && decide (KwE.mk args.length nms perm ∈ fe.kws)
      | none => false) && glB ct x && okName x && decide (kws.map (·.arg) = nms.map some) && chkEs gi ct as args && chkEs gi ct ks (kws.map (·.value))
    | _ => false
  | .bi b _ as, e => match e with
    | .Call (.Name x _) args [] _ => biB b x args.length && glB ct x && chkEs gi ct as args
    | _ => false
  | .rgl tu _ a, e => match e with
    | .Call (.Name x _) [.Call (.Name r _) [n] [] _] [] _ => decide (x = if tu then ("tuple" : Str) else ("list" : Str)) && decide (r = ("range" : Str)) && glB ct x && glB ct r && notStar n && chkE gi ct a n
    | _ => false
  | .mt m o as, e => match e with
    | .Call (.Attribute ov name apos) args [] pos => mtB m name args.length && (apos.endLine == pos.line) && notCall0 ov && chkE gi ct o ov && chkEs gi ct as args
    | _ => false
  | .isi a t, e => match e with
    | .Call (.Name x _) [v, .Name T _] [] _ => decide (x = ("isinstance" : Str)) && decide (T = Str.ofString (tyName t)) && glB ct x && glB ct T && notStar v && chkE gi ct a v
    | _ => false
  | .isn a, e => match e with
    | .Compare l [.Is] [.Constant .none _ _] _ => chkE gi ct a l
    | _ => false
  | .ntn a, e => match e with
    | .Compare l [.IsNot] [.Constant .none _ _] _ => chkE gi ct a l
    | _ => false
  | .lc _ own t it ifs el, e => match e with
    | .ListComp elt [⟨tg, iter, ifs', asy⟩] scope _ => decide (asy = 0) && blkC ct.N ct.sc scope (ownP ct own) && (slots t).all (own.contains ·) && notSet iter && chkI gi ct it tg iter && chkTg (ct.blk scope) t tg && decide (ifs'.length ≤ 1) && chkEs gi (ct.blk scope) ifs ifs' && chkE gi (ct.blk scope) el elt
    | _ => false
  | .gx k own t it ifs el, e => match e with
    | .Call (.Name x _) [.GeneratorExp elt [⟨tg, iter, ifs', asy⟩] scope _] [] _ => decide (x = k.nm) && glB ct x && ct.gx && decide (asy = 0) && blkC ct.N ct.sc scope (ownP ct own) && (scope.names.all fun y => !decide (y.2 = .cell)) && !scope.isCoroutine && decide (scope.names.lookup (".0" : Str) = some .local) &&
      (slots t).all (own.contains ·) && notSet iter && notLst iter && chkI gi ct it tg iter && chkTg (ct.gen scope) t tg && decide (ifs'.length ≤ 1) && chkEs gi (ct.gen scope) ifs ifs' && chkE gi (ct.gen scope) el elt
    | _ => false
def chkEs (gi : Gi) (ct : Ct) : Es → List Expr → Bool
  | .nil, es => match es with
    | [] => true
    | _ => false
  | .cons a as, es => match es with
    | e :: es => notStar e && chkE gi ct a e && chkEs gi ct as es
    | [] => false
def chkO (gi : Gi) (ct : Ct) : Eo → Option Expr → Bool
  | .none, o => match o with
    | none => true
    | some _ => false
  | .some a, o => match o with
    | some e => chkE gi ct a e
    | none => false
def chkI (gi : Gi) (ct : Ct) : It → Expr → Expr → Bool
  | .seq a, _, e => chkE gi ct a e
  | .rng a, _, e => match e with
    | .Call (.Name x _) [n] [] _ => decide (x = ("range" : Str)) && glB ct x && notStar n && chkE gi ct a n
    | _ => false
  | .rng2 a b, _, e => match e with
    | .Call (.Name x _) [n, m] [] _ => decide (x = ("range" : Str)) && glB ct x && notStar n && notStar m && chkE gi ct a n && chkE gi ct b m
    | _ => false
  | .zip a b, tg, e => match tg, e with
    | .Tuple _ _ _, .Call (.Name x _) [n, m] [] _ => decide (x = ("zip" : Str)) && glB ct x && notStar n && notStar m && chkE gi ct a n && chkE gi ct b m
    | _, _ => false
  | .enum a, tg, e => match tg, e with
    | .Tuple _ _ _, .Call (.Name x _) [n] [] _ => decide (x = ("enumerate" : Str)) && glB ct x && notStar n && chkE gi ct a n
    | _, _ => false
end
/-- no comprehension's value goes to a name by the short way -/
def swB (ct : Ct) (v : Expr) (tg : Option Expr) : Bool := match v with
  | .ListComp _ _ s p => match tg with
    | none => false
    | some (.Name t pos) => !(decide (ct.sc.names.lookup t = some .local) && (pos.line == p.line) && !(s.names.any fun (n, k) => n == t && (k == .local || k == .cell)))
    | some _ => true
  | .SetComp _ _ _ _ => false
  | .DictComp _ _ _ _ _ => false
  | _ => true
def notTup : Expr → Bool
  | .Tuple _ _ _ => false
  | .List _ _ => false
  | _ => true
def isStarred : Expr → Bool
  | .Starred _ _ => true
  | _ => false
def parN (sc : Scope) (line : Nat) : Expr → Option Str
  | .Name id pos => if sc.names.lookup id == some .local && pos.line == line then some id else none
  | _ => none
def parB (sc : Scope) (ts vs : List Expr) (names : List Str) : Bool :=
  (ts.length == 2 || ts.length == 3) && (vs.length == ts.length) && decide (sc.kind = .function) && !(vs.any isStarred) && decide (ts.filterMap (parN sc ((ts.head?.map (·.pos.line)).getD 0)) = names) &&
    !(names.length != ts.length || names.eraseDups.length != names.length) && !(vs.all (foldedForSure 8)) && !(vs.all (constantsAlone 8))
def parNone (sc : Scope) (ts vs : List Expr) : Bool :=
  !(ts.length == 2 || ts.length == 3) || (!(vs.any isStarred) && decide (sc.kind = .function) && (vs.length == ts.length) && ((ts.filterMap (parN sc ((ts.head?.map (·.pos.line)).getD 0))).length != ts.length || vs.all (foldedForSure 8)))
def parNoneE (sc : Scope) : Expr → Expr → Bool
  | .Tuple ts _ _, .Tuple vs _ _ => parNone sc ts vs
  | _, _ => false
def parT (ct : Ct) : List Nat → List Expr → Option (List Str)
  | [], [] => some []
  | i :: is, .Name x _ :: es => if decide (ct.N[i]? = some x) && decide (ct.sc.names.lookup x = some .local) then (parT ct is es).map (x :: ·) else none
  | _, _ => none
mutual
def chkS (gi : Gi) (ct : Ct) : St → Stmt → Bool
  | .asg t e, st => match st with
    | .Assign [tg] v pos => swB ct v (some tg) && (notTup tg || notTup v || parNoneE ct.sc tg v) && chkTg ct t tg && chkE gi ct e v
    | _ => false
  | .asgLc i _ own t it ifs el, st => match st with
    | .Assign [.Name y py] (.ListComp elt [⟨tg, iter, ifs', asy⟩] scope p) _ => decide (ct.N[i]? = some y) && decide (ct.sc.names.lookup y = some .local) && decide (ct.sc.kind = .function) && (py.line == p.line) && !(scope.names.any fun (n, k) => n == y && (k == .local || k == .cell)) &&
      decide (asy = 0) && blkC ct.N ct.sc scope (ownP ct own) && (slots t).all (own.contains ·) && notSet iter && chkI gi ct it tg iter && chkTg (ct.blk scope) t tg && decide (ifs'.length ≤ 1) && chkEs gi (ct.blk scope) ifs ifs' && chkE gi (ct.blk scope) el elt
    | _ => false
  | .par is as, st => match st with
    | .Assign [.Tuple ts _ _] (.Tuple vs _ _) _ => (match parT ct is ts with
      | some xs => parB ct.sc ts vs xs
      | none => false) && decide is.Nodup && chkEs gi ct as vs
    | _ => false
  | .sset o i e, st => match st with
    | .Assign [.Subscript ov iv _] v _ => swB ct v (some (.Subscript ov iv ⟨0, 0, 0, 0⟩)) && notSlice iv && chkE gi ct o ov && chkE gi ct i iv && chkE gi ct e v
    | _ => false
  | .aug i o e, st => match st with
    | .AugAssign (.Name x _) op v _ => decide (ct.N[i]? = some x) && stoB ct x && iopB o op && chkE gi ct e v
    | _ => false
  | .exp e, st => match st with
    | .Expr v _ => swB ct v none && chkE gi ct e v
    | _ => false
  | .ret e, st => match st with
    | .Return (some v) _ => chkE gi ct e v
    | _ => false
  | .retn, st => match st with
    | .Return none _ => true
    | _ => false
  | .ifs c a b, st => match st with
    | .If t x y _ => chkE gi ct c t && chkSs gi ct a x && chkSs gi ct b y
    | _ => false
  | .whl c b, st => match st with
    | .While t x [] _ => chkE gi ct c t && chkSs gi ct b x
    | _ => false
  | .fr t it b, st => match st with
    | .For tg iter x [] _ => notSet iter && chkTg ct t tg && chkI gi ct it tg iter && chkSs gi ct b x
    | _ => false
  | .brk, st => match st with
    | .Break _ => true
    | _ => false
  | .cnt, st => match st with
    | .Continue _ => true
    | _ => false
  | .pas, st => match st with
    | .Pass _ => true
    | _ => false
def chkSs (gi : Gi) (ct : Ct) : Ss → List Stmt → Bool
  | .nil, sts => match sts with
    | [] => true
    | _ => false
  | .cons s ss, sts => match sts with
    | st :: sts => chkS gi ct s st && chkSs gi ct ss sts
    | [] => false
end
end Kp

/-! Kp, part N: what is checked is so: expressions. Own work. -/
namespace Kp
open PySem PySem.Spec PyProof.Rows L2

structure CxOk τ (X : Cx) (ct : Ct) (gi : Gi) (G : List D) (cf : List CF) : Prop where
  hN : X.N = ct.N
  nd : X.N.Nodup
  sc : X.env.scope = ct.sc
  fn : ∀ x, ct.fn x = true → X.fn x = true
  calm : X.calm = true
  xe : X.xe = fun _ _ => False
  room : Room cf.length X.A
  cfok : CFOk X.prog X.w (qx X τ) X.mg X.base gi.fns cf
  tab : ct.gx = true → ∃ c P, GxR.TabB X.base X.mg c P ∧ X.env.code = .ref c ∧ P ∈ τ
  blt : ∀ x ∈ bltNames, X.mg x = none
  con : ∀ (i : Nat) (x : Str) (d : D), gi.cons[i]? = some x → G[i]? = some d → ∃ v u, X.mg x = some u ∧ RelV v u ∧ ∀ φ n H, RV (qx X τ) φ n H v d
section
variable {X : Cx} {ct : Ct} {gi : Gi} {G : List D} {cf : List CF}
theorem CxOk.gl (c : CxOk τ X ct gi G cf) {x : Str} (h : glB ct x = true) : Gl X x := by
  unfold glB at h
  show X.env.scope.names.lookup x = _
  rw [c.sc]
  exact of_decide_eq_true h
theorem CxOk.vis (c : CxOk τ X ct gi G cf) {x : Str} (h : visB ct x = true) : Vis X.env.scope x := by
  unfold visB at h
  rw [c.sc]
  simp only [Bool.or_eq_true, decide_eq_true_eq] at h
  rcases h with (h | h) | h
  · exact .inl h
  · exact .inr (.inl h)
  · exact .inr (.inr h)
theorem CxOk.sto (c : CxOk τ X ct gi G cf) {x : Str} (h : stoB ct x = true) : Loc X.env.scope x ∧ (X.fn x = true ∨ X.env.scope.names.lookup x = some .local) := by
  unfold stoB at h
  rw [c.sc]
  simp only [Bool.or_eq_true, Bool.and_eq_true, decide_eq_true_eq] at h
  rcases h with h | ⟨h, h2⟩
  · exact ⟨.inl h, .inr h⟩
  · exact ⟨.inr h, .inl (c.fn x h2)⟩
theorem CxOk.at (c : CxOk τ X ct gi G cf) {i : Nat} {x : Str} (h : ct.N[i]? = some x) : X.N[i]? = some x := by rw [c.hN]; exact h
theorem CxOk.blk (c : CxOk τ X ct gi G cf) (scope : Scope) (s : Shared) (H : Hp) (C : Addr) (cl : List (Str × Addr)) (fp : List Addr) : CxOk τ (X.blk s H scope (compEnvC scope cl C X.env) fp) (ct.blk scope) gi G cf where
  hN := c.hN
  nd := c.nd
  sc := by
    show relS scope X.env.scope = relS scope ct.sc
    rw [c.sc]
  fn := fun x h => h
  calm := c.calm
  xe := rfl
  room := c.room
  cfok := c.cfok
  tab := c.tab
  blt := c.blt
  con := c.con
theorem CxOk.gen {cc : CF} {rest : List CF} (c : CxOk τ X ct gi G (cc :: rest)) (scope : Scope) (A : Around) (s : Shared) (H : Hp) (C : Addr) (code : Value) (fp : List Addr) (pn : List (Addr × Obj)) (hr : Room rest.length A) :
    CxOk τ (gcx X A s H scope (genEnv scope (cloFrom X.env.cells scope.names []) C code builtinsNs X.env) fp pn) (ct.gen scope) gi G rest where
  hN := c.hN
  nd := c.nd
  sc := rfl
  fn := fun x h => h
  calm := rfl
  xe := rfl
  room := hr
  cfok := c.cfok.2
  tab := fun h => by cases h
  blt := c.blt
  con := c.con
theorem CxOk.un (c : CxOk τ X ct gi G cf) : X.A.units + 70 < cLine := by
  have h := c.room.un
  exact Nat.lt_of_le_of_lt (by omega) h
end
theorem okName_h {x : Str} (h : okName x = true) : (x == ("__debug__" : Str)) = false ∧ (x == ("__classdict__" : Str)) = false ∧ x ≠ ("__name__" : Str) := by
  unfold okName at h
  simp only [Bool.and_eq_true, Bool.not_eq_true', decide_eq_true_eq] at h
  exact ⟨h.1.1, h.1.2, h.2⟩
theorem star_ok {a : Expr} {es : List Expr} {env : PySem.Env} (h : notStar a = true) : starEach (a :: es) env = (false, eval a env) :: starEach es env := by
  cases a <;> first | rfl | cases h
theorem plain_ok {env : PySem.Env} {pos : Pos} : ∀ {es : List Expr}, es.all notStar = true → (backTo pos (starEach es env)).any (·.1) = false
  | [], _ => rfl
  | a :: es, h => by
    rw [List.all_cons, Bool.and_eq_true] at h
    rw [star_ok h.1]
    show (false || (backTo pos (starEach es env)).any (·.1)) = false
    rw [Bool.false_or]
    exact plain_ok h.2
theorem plain_all {env : PySem.Env} {pos : Pos} : ∀ {es : List Expr}, es.all notStar = true → (backTo pos (starEach es env)).all (fun x => !x.1) = true
  | [], _ => rfl
  | a :: es, h => by
    rw [List.all_cons, Bool.and_eq_true] at h
    rw [star_ok h.1]
    show (true && (backTo pos (starEach es env)).all (fun x => !x.1)) = true
    rw [Bool.true_and]
    exact plain_all h.2
theorem ix_plain {b : Expr} (h : notSlice b = true) : PlainIx b := by
  intro o i
  cases b <;> first | rfl | cases h
theorem set_plain {e : Expr} {env : PySem.Env} (h : notSet e = true) : ∀ x, foldedSetIterable e env x = pure x := by
  intro x
  cases e <;> first | rfl | cases h
theorem gen_plain {e : Expr} {env : PySem.Env} (h : notSet e = true) (h2 : notLst e = true) : ∀ x, genFold e env x = pure x := by
  intro x
  cases e <;> first | rfl | exact (Bool.false_ne_true h).elim | exact (Bool.false_ne_true h2).elim
theorem base_plain {o : Expr} {name : Str} {env : PySem.Env} {w : Sem Value} (h : notCall0 o = true) : attributeBase o name env w = w := by
  cases o with
  | Call f as ks p =>
    cases f with
    | Name id q =>
      cases as with
      | nil => cases ks with
        | nil => cases h
        | cons _ _ => rfl
      | cons _ _ => rfl
    | _ => rfl
  | _ => rfl
theorem kw_some {env : PySem.Env} {pos : Pos} : ∀ {kws : List Keyword} {nms : List Str}, kws.map (·.arg) = nms.map some →
    (backToKw pos (keywordEach kws env)).all (·.1.isSome) = true ∧ (backToKw pos (keywordEach kws env)).filterMap (·.1) = nms ∧ (backToKw pos (keywordEach kws env)).any (·.1.isNone) = false
  | [], [], _ => ⟨rfl, rfl, rfl⟩
  | [], _ :: _, h => by cases h
  | ⟨_, _, _⟩ :: _, [], h => by cases h
  | ⟨a, v, p⟩ :: kws, n :: nms, h => by
    rw [List.map_cons, List.map_cons] at h
    injection h with h1 h2
    have h1 : a = some n := h1
    subst h1
    obtain ⟨e1, e2, e3⟩ := kw_some (env := env) (pos := pos) h2
    refine ⟨?_, ?_, ?_⟩
    · show (true && (backToKw pos (keywordEach kws env)).all (·.1.isSome)) = true
      rw [e1]; rfl
    · show n :: (backToKw pos (keywordEach kws env)).filterMap (·.1) = n :: nms
      rw [e2]
    · show (false || (backToKw pos (keywordEach kws env)).any (·.1.isNone)) = false
      rw [e3]; rfl
def esLen : Es → Nat
  | .nil => 0
  | .cons _ es => esLen es + 1
section
variable {X : Cx} {ct : Ct} {gi : Gi} {G : List D} {cf : List CF}
theorem evs_len : ∀ {as : Es} {env : Env} {s : S} {z : List D × S}, evs G cf as env s = some z → z.1.length = esLen as
  | .nil, env, s, z, h => by
    have h : some (([] : List D), s) = some z := h
    cases h
    rfl
  | .cons a as, env, s, z, h => by
    have h : (bd (ev G cf a env s) fun x s1 => bd (evs G cf as env s1) fun xs s2 => some (x :: xs, s2)) = some z := h
    obtain ⟨x, s1, h1, h⟩ := bd_inv h
    obtain ⟨xs, s2, h2, h⟩ := bd_inv h
    cases h
    show xs.length + 1 = esLen as + 1
    have z := evs_len h2
    rw [show xs.length = esLen as from z]
theorem chkEs_len : ∀ {as : Es} {es : List Expr}, chkEs gi ct as es = true → es.length = esLen as ∧ es.all notStar = true
  | .nil, es, h => by
    cases es with
    | nil => exact ⟨rfl, rfl⟩
    | cons _ _ => unfold chkEs at h; cases h
  | .cons a as, es, h => by
    cases es with
    | nil => unfold chkEs at h; cases h
    | cons e es =>
      unfold chkEs at h
      simp only [Bool.and_eq_true] at h
      obtain ⟨z1, z2⟩ := chkEs_len h.2
      exact ⟨by show es.length + 1 = esLen as + 1; rw [z1], by rw [List.all_cons, h.1.1, z2]; rfl⟩
theorem se_no {e : Expr} {r : ER} (h : ∀ env s, r env s = none) : PE X e (tE (qx X τ) r) := ⟨fun pins s σ H Q I ⟨φ, env, st, d, s', _, _, q, _⟩ => by rw [h] at q; cases q⟩
theorem opB_ok {o : BOp} {op : Operator} (h : opB o op = true) : OpS X (binaryOp op) (binD o) := by
  cases o with
  | add mu => cases op <;> first | exact absurd h Bool.false_ne_true | exact os_add
  | sub => cases op <;> first | exact absurd h Bool.false_ne_true | exact os_sub
  | mul mu => cases op <;> first | exact absurd h Bool.false_ne_true | exact os_mul
  | mod => cases op <;> first | exact absurd h Bool.false_ne_true | exact os_mod
  | fdiv => cases op <;> first | exact absurd h Bool.false_ne_true | exact os_fdiv
  | pow => cases op <;> first | exact absurd h Bool.false_ne_true | exact os_pow
theorem cmpB_ok {o : COp} {op : CmpOp} (hu : X.A.units + 70 < cLine) (h : cmpB o op = true) : OpB X (compareOp op) (cmpD o) := by
  cases o with
  | eq => cases op <;> first | exact absurd h Bool.false_ne_true | exact ob_eq hu
  | ne => cases op <;> first | exact absurd h Bool.false_ne_true | exact ob_ne hu
  | lt => cases op <;> first | exact absurd h Bool.false_ne_true | exact ob_lt hu
  | le => cases op <;> first | exact absurd h Bool.false_ne_true | exact ob_le
  | gt => cases op <;> first | exact absurd h Bool.false_ne_true | exact ob_gt
  | ge => cases op <;> first | exact absurd h Bool.false_ne_true | exact ob_ge
  | isin => cases op <;> first | exact absurd h Bool.false_ne_true | exact ob_in hu
  | notin => cases op <;> first | exact absurd h Bool.false_ne_true | exact ob_notin hu
  | isb => cases op <;> first | exact absurd h Bool.false_ne_true | exact ob_isb
  | isnb => cases op <;> first | exact absurd h Bool.false_ne_true | exact ob_isnb
end
end Kp

/-! Kp, part O: what is checked is so: expressions. Own work. -/
namespace Kp
open PySem PySem.Spec PyProof.Rows L2
section
variable {X : Cx} {ct : Ct} {gi : Gi} {G : List D} {cf : List CF}
theorem con_ok {c : Const} {d : D} {k : Nat} {pos : Pos} (h : conB c d = true) : PE X (.Constant c k pos) (tE (qx X τ) fun _ s => some (d, s)) := by
  cases c with
  | none => cases d <;> first | exact se_c pe_non fun _ _ _ => .non | cases h
  | bool b => cases d with
    | bl j => cases of_decide_eq_true h; exact se_c pe_bl fun _ _ _ => .bl _
    | _ => cases h
  | int b => cases d with
    | int j => cases of_decide_eq_true h; exact se_c pe_int fun _ _ _ => .int _
    | _ => cases h
  | str b => cases d with
    | str j =>
      have h : (decide (b = j) && b.cps.all (· < 0x110000)) = true := h
      rw [Bool.and_eq_true] at h
      cases of_decide_eq_true h.1
      exact se_c pe_str fun _ _ _ => .str _ h.2
    | _ => cases h
  | _ => cases d <;> cases h
theorem okT {e : Expr} {r : ER} (h : PE X e (tE (qx X τ) r)) (he : ∀ whole, isTrue e X.env whole = (do let v ← whole; standAt e.pos; holding [v] (truthy v))) : PE X e (tE (qx X τ) r) ∧ PT X e (tT (qx X τ) r) := ⟨h, st_truth h he⟩
theorem fn_at (c : CxOk τ X ct gi G cf) {cc : CF} {rest : List CF} (e : cf = cc :: rest) {i : Nat} {fe : FnE} (h : gi.fns[i]? = some fe) : FnAt X.prog X.w (qx X τ) X.mg X.base cf.length fe (cc i) := by
  subst e
  exact c.cfok.1 i fe h
/-- a reading of an argument list, in all the ways in which it is read -/
structure EsOk (τ : List Addr) (X : Cx) (G : List D) (cf : List CF) (as : Es) (es : List Expr) : Prop where
  pa : PA X es (tA (qx X τ) (evs G cf as))
  pk : ∀ kws : List Keyword, kws.map (·.value) = es → PK X kws (tA (qx X τ) (evs G cf as))
  ea : ∀ pos, es ≠ [] → PE X (.BoolOp .And es pos) (tE (qx X τ) (evand G cf as)) ∧ PW X (.BoolOp .And es pos) (tT (qx X τ) (evand G cf as))
  eo : ∀ pos, es ≠ [] → PE X (.BoolOp .Or es pos) (tE (qx X τ) (evor G cf as)) ∧ PW X (.BoolOp .Or es pos) (tT (qx X τ) (evor G cf as))
  et : es.length ≤ 1 → PTs X es (tQ (qx X τ) (evt G cf as))
theorem ok_call (c : CxOk τ X ct gi G cf) {f : Nat} {as : Es} {x : Str} {args : List Expr} {p pos : Pos} (hf : (match gi.fns[f]? with
      | some fe => decide (fe.x = x)
      | none => false) = true) (hg : glB ct x = true) (hn : okName x = true) (hs : chkEs gi ct as args = true) (ha : EsOk τ X G cf as args) : PE X (.Call (.Name x p) args [] pos) (tE (qx X τ) (ev G cf (.call f as))) := by
  cases hfe : gi.fns[f]? with
  | none => rw [hfe] at hf; cases hf
  | some fe =>
    rw [hfe] at hf
    have ex : fe.x = x := of_decide_eq_true hf
    subst ex
    obtain ⟨n1, n2, n3⟩ := okName_h hn
    cases hcf : cf with
    | nil =>
      refine se_no fun env s => ?_
      show (bd (evs G [] as env s) fun vs s1 => none) = none
      cases evs G [] as env s <;> rfl
    | cons cc rest =>
      have F := fn_at c hcf hfe
      have hr := c.room
      rw [hcf] at ha F hr
      cases args with
      | nil =>
        cases as with
        | nil =>
          show PE X _ (tE (qx X τ) fun env s => bd (some ([], s)) fun vs s1 => cc f vs s1)
          exact se_call0 F hr (c.gl hg) F.ari n1
        | cons _ _ => unfold chkEs at hs; cases hs
      | cons a es =>
        have ns := (chkEs_len hs).2
        rw [List.all_cons, Bool.and_eq_true] at ns
        exact se_call F hr (c.gl hg) F.ari n1 ha.pa (star_ok ns.1) (plain_ok ns.2)
theorem ok_callk (c : CxOk τ X ct gi G cf) {f : Nat} {as ks : Es} {nms : List Str} {perm : List Nat} {x : Str} {args : List Expr} {kws : List Keyword} {p pos : Pos} (hf : (match gi.fns[f]? with
      | some fe => decide (fe.x = x) && decide (KwE.mk args.length nms perm ∈ fe.kws)
      | none => false) = true) (hg : glB ct x = true) (hn : okName x = true) (hk : kws.map (·.arg) = nms.map some) (hs : chkEs gi ct as args = true) (hs2 : chkEs gi ct ks (kws.map (·.value)) = true)
    (ha : EsOk τ X G cf as args) (hb : EsOk τ X G cf ks (kws.map (·.value))) : PE X (.Call (.Name x p) args kws pos) (tE (qx X τ) (ev G cf (.callk f as ks nms perm))) := by
  cases hfe : gi.fns[f]? with
  | none => rw [hfe] at hf; cases hf
  | some fe =>
    rw [hfe] at hf
    have hf : (decide (fe.x = x) && decide (KwE.mk args.length nms perm ∈ fe.kws)) = true := hf
    rw [Bool.and_eq_true] at hf
    have ex : fe.x = x := of_decide_eq_true hf.1
    have em : KwE.mk args.length nms perm ∈ fe.kws := of_decide_eq_true hf.2
    subst ex
    obtain ⟨n1, n2, n3⟩ := okName_h hn
    obtain ⟨k1, k2, k3⟩ := kw_some (env := X.env) (pos := pos) hk
    have hl : kws.length = nms.length := by have := congrArg List.length hk; simpa using this
    cases hcf : cf with
    | nil =>
      refine se_no fun env s => ?_
      show (bd (evs G [] as env s) fun vs s1 => bd (evs G [] ks env s1) fun ws s2 => none) = none
      cases evs G [] as env s with
      | none => rfl
      | some z => rw [bd_some]; cases evs G [] ks env z.2 <;> rfl
    | cons cc rest =>
      have F := fn_at c hcf hfe
      have hr := c.room
      rw [hcf] at ha hb F hr
      have l2 : ∀ env s z, evs G (cc :: rest) ks env s = some z → z.1.length = nms.length := fun env s z h => by
        rw [evs_len h, ← (chkEs_len hs2).1, List.length_map, hl]
      cases args with
      | nil =>
        cases as with
        | nil => exact se_callk0 F em hr (c.gl hg) F.ari n1 (hb.pk kws rfl) k1 k2 (by rw [k3]; rfl) rfl l2
        | cons _ _ => unfold chkEs at hs; cases hs
      | cons a es =>
        have ns := (chkEs_len hs).2
        have ns' := ns
        rw [List.all_cons, Bool.and_eq_true] at ns
        exact se_callk F em hr (c.gl hg) F.ari n1 ha.pa (hb.pk kws rfl) k1 k2 (star_ok ns.1) (by rw [plain_ok ns', k3]; rfl) (fun env s z h => by rw [evs_len h, ← (chkEs_len hs).1]) l2
theorem ok_bi (c : CxOk τ X ct gi G cf) {b : Bi} {mu : Bool} {as : Es} {x : Str} {args : List Expr} {p pos : Pos} (hb : biB b x args.length = true) (hg : glB ct x = true) (hs : chkEs gi ct as args = true) (ha : EsOk τ X G cf as args) :
    PE X (.Call (.Name x p) args [] pos) (tE (qx X τ) (ev G cf (.bi b mu as))) := by
  have gl := c.gl hg
  have key : ∀ (id : String) (y : Str), y ∈ bltNames → bootBuiltins y = some (.builtin id) → y ≠ "__name__" → (y == ("__debug__" : Str)) = false → OpC X (.builtin id) (biD b mu) → x = y → args ≠ [] → PE X (.Call (.Name x p) args [] pos) (tE (qx X τ) (ev G cf (.bi b mu as))) := fun id y hy hbt h1 h2 hc e hne => by
    subst e
    cases args with
    | nil => exact absurd rfl hne
    | cons a es =>
      have ns := (chkEs_len hs).2
      rw [List.all_cons, Bool.and_eq_true] at ns
      exact se_callB hc gl (c.blt _ hy) hbt ha.pa h1 h2 (star_ok ns.1) (plain_ok ns.2)
  have keyT : ∀ (T : String) (y : Str), y ∈ bltNames → bootBuiltins y = some (.type T) → y ≠ "__name__" → (y == ("__debug__" : Str)) = false → OpC X (.type T) (biD b mu) → x = y → args ≠ [] → PE X (.Call (.Name x p) args [] pos) (tE (qx X τ) (ev G cf (.bi b mu as))) := fun id y hy hbt h1 h2 hc e hne => by
    subst e
    cases args with
    | nil => exact absurd rfl hne
    | cons a es =>
      have ns := (chkEs_len hs).2
      rw [List.all_cons, Bool.and_eq_true] at ns
      exact se_callTy hc gl (c.blt _ hy) hbt ha.pa h1 h2 (star_ok ns.1) (plain_ok ns.2)
  unfold biB at hb
  simp only [Bool.and_eq_true, decide_eq_true_eq] at hb
  obtain ⟨⟨hx, _⟩, hne⟩ := hb
  have ne : args ≠ [] := fun e => by subst e; exact hne rfl
  have hbl : (biN b).2 = 0 → False := fun e => by
    have : args.length = (biN b).2 := by assumption
    rw [e] at this
    exact hne this
  cases b with
  | len => exact key "len" "len" (by decide) boot_len (by decide) (by decide) oc_len hx ne
  | abs => exact key "abs" "abs" (by decide) boot_abs (by decide) (by decide) oc_abs hx ne
  | int => exact keyT "int" "int" (by decide) boot_int (by decide) (by decide) oc_int hx ne
  | min2 => exact key "min" "min" (by decide) boot_min (by decide) (by decide) (oc_min2 c.calm) hx ne
  | max2 => exact key "max" "max" (by decide) boot_max (by decide) (by decide) (oc_max2 c.calm) hx ne
  | maxl => exact key "max" "max" (by decide) boot_max (by decide) (by decide) (oc_maxl c.calm) hx ne
  | minl => exact key "min" "min" (by decide) boot_min (by decide) (by decide) (oc_minl c.calm) hx ne
  | sum => exact key "sum" "sum" (by decide) boot_sum (by decide) (by decide) (oc_sum c.calm) hx ne
  | sorted => exact key "sorted" "sorted" (by decide) boot_sorted (by decide) (by decide) (oc_sorted c.un) hx ne
  | list => exact keyT "list" "list" (by decide) boot_list (by decide) (by decide) (oc_list c.calm) hx ne
  | tuple => exact keyT "tuple" "tuple" (by decide) boot_tuple (by decide) (by decide) oc_tuple hx ne
  | dict => exact keyT "dict" "dict" (by decide) boot_dict (by decide) (by decide) (oc_dict c.calm) hx ne
  | listRg => exact (hbl rfl).elim
  | tupRg => exact (hbl rfl).elim
theorem ok_mt (c : CxOk τ X ct gi G cf) {m : Mt} {o : E} {as : Es} {ov : Expr} {name : Str} {args : List Expr} {apos pos : Pos} (hb : mtB m name args.length = true) (hl : (apos.endLine == pos.line) = true) (hc0 : notCall0 ov = true) (hs : chkEs gi ct as args = true) (ho : PE X ov (tE (qx X τ) (ev G cf o))) (ha : EsOk τ X G cf as args) :
    PE X (.Call (.Attribute ov name apos) args [] pos) (tE (qx X τ) (ev G cf (.mt m o as))) := by
  have key : ∀ {id : String} (hgm : m ≠ .get ∧ m ≠ .get2) (slot : Slot "list" name id) (hty : typeOf (.builtin id) = pure (.type "method_descriptor")) (hm : OpM X id (mtD m)), PE X (.Call (.Attribute ov name apos) args [] pos) (tE (qx X τ) (ev G cf (.mt m o as))) := fun {id} hgm slot hty hm => by
    cases args with
    | nil =>
      cases as with
      | nil => exact se_mt0 hgm slot hty hm ho (base_plain hc0) hl
      | cons _ _ => unfold chkEs at hs; cases hs
    | cons a es =>
      have ns := (chkEs_len hs).2
      have ns' := ns
      rw [List.all_cons, Bool.and_eq_true] at ns
      unfold mtB at hb
      simp only [Bool.and_eq_true, decide_eq_true_eq] at hb
      have hfew : ((backTo pos (starEach (a :: es) X.env)).all (fun x => !x.1) && (backToKw pos (keywordEach [] X.env)).all (fun x => x.1.isSome)
        && decide ((a :: es).length + ([] : List Keyword).length + (if ([] : List Keyword).isEmpty then 0 else 1) < 30)) = true := by
        rw [plain_all ns']
        have z : (a :: es).length + ([] : List Keyword).length + (if ([] : List Keyword).isEmpty then 0 else 1) < 30 := hb.2
        rw [decide_eq_true z]
        rfl
      exact se_mt hgm slot hty hm ho ha.pa (base_plain hc0) hfew hl (star_ok ns.1) (plain_ok ns.2)
  have keyD : ∀ {id : String} (hgm : m = .get ∨ m = .get2) (slot : Slot "dict" name id) (hty : typeOf (.builtin id) = pure (.type "method_descriptor")) (hm : OpM X id (mtD m)), args ≠ [] → PE X (.Call (.Attribute ov name apos) args [] pos) (tE (qx X τ) (ev G cf (.mt m o as))) := fun {id} hgm slot hty hm hne => by
    cases args with
    | nil => exact absurd rfl hne
    | cons a es =>
      have ns := (chkEs_len hs).2
      have ns' := ns
      rw [List.all_cons, Bool.and_eq_true] at ns
      unfold mtB at hb
      simp only [Bool.and_eq_true, decide_eq_true_eq] at hb
      have hfew : ((backTo pos (starEach (a :: es) X.env)).all (fun x => !x.1) && (backToKw pos (keywordEach [] X.env)).all (fun x => x.1.isSome)
        && decide ((a :: es).length + ([] : List Keyword).length + (if ([] : List Keyword).isEmpty then 0 else 1) < 30)) = true := by
        rw [plain_all ns']
        have z : (a :: es).length + ([] : List Keyword).length + (if ([] : List Keyword).isEmpty then 0 else 1) < 30 := hb.2
        rw [decide_eq_true z]
        rfl
      exact se_dm hgm slot hty hm ho ha.pa (base_plain hc0) hfew hl (star_ok ns.1) (plain_ok ns.2)
  have hb' := hb
  unfold mtB at hb'
  simp only [Bool.and_eq_true, decide_eq_true_eq] at hb'
  obtain ⟨⟨hx, hn⟩, h30⟩ := hb'
  cases m with
  | append => subst hx; exact key ⟨by decide, by decide⟩ PySem.F.slot_list_append PySem.F.type_list_append om_append
  | pop => subst hx; exact key ⟨by decide, by decide⟩ PySem.F.slot_list_pop PySem.F.type_list_pop om_pop
  | popAt => subst hx; exact key ⟨by decide, by decide⟩ PySem.F.slot_list_pop PySem.F.type_list_pop om_popAt
  | reverse => subst hx; exact key ⟨by decide, by decide⟩ PySem.F.slot_list_reverse PySem.F.type_list_reverse om_reverse
  | get => subst hx; exact keyD (.inl rfl) PySem.F.slot_dict_get PySem.F.type_dict_get (om_get c.un) fun e => by subst e; exact absurd hn (by decide)
  | get2 => subst hx; exact keyD (.inr rfl) PySem.F.slot_dict_get PySem.F.type_dict_get (om_get2 c.un) fun e => by subst e; exact absurd hn (by decide)
  | insert => rw [hn] at h30; exact absurd h30 (by decide)
  | extend => rw [hn] at h30; exact absurd h30 (by decide)
  | index => rw [hn] at h30; exact absurd h30 (by decide)
theorem ty_boot (t : Ty) : Str.ofString (tyName t) ∈ bltNames ∧ bootBuiltins (Str.ofString (tyName t)) = some (.type (tyName t)) ∧ Str.ofString (tyName t) ≠ "__name__" ∧ (Str.ofString (tyName t) == ("__debug__" : Str)) = false := by
  cases t
  · exact ⟨by decide, boot_int, by decide, by decide⟩
  · exact ⟨by decide, boot_bool, by decide, by decide⟩
  · exact ⟨by decide, boot_str, by decide, by decide⟩
  · exact ⟨by decide, boot_tuple, by decide, by decide⟩
  · exact ⟨by decide, boot_list, by decide, by decide⟩
theorem ok_isi (c : CxOk τ X ct gi G cf) {a : E} {t : Ty} {v : Expr} {p p2 pos : Pos} (hg : glB ct ("isinstance" : Str) = true) (hgT : glB ct (Str.ofString (tyName t)) = true) (hs : notStar v = true) (ha : PE X v (tE (qx X τ) (ev G cf a))) :
    PE X (.Call (.Name "isinstance" p) [v, .Name (Str.ofString (tyName t)) p2] [] pos) (tE (qx X τ) (ev G cf (.isi a t))) := by
  obtain ⟨h1, h2, h3, h4⟩ := ty_boot t
  exact se_isi (c.gl hg) (c.blt _ (by decide)) (c.gl hgT) (c.blt _ h1) h2 h3 h4 ha (star_ok hs)
theorem ownP_snd {own : List Nat} : (ownP ct own).map (·.2) = own := by
  unfold ownP
  rw [List.map_map]
  exact List.map_id _
/-- what a comprehension is read as -/
theorem ev_lc {mu : Bool} {own : List Nat} {t : Tg} {it : It} {ifs : Es} {el : E} : ev G cf (.lc mu own t it ifs el) = fun env s => bd (evi G cf it env s) fun p s1 => bd (compL (stepL t own (evt G cf ifs) (ev G cf el) env) p.2 p.1 s1) (newL mu) := rfl
mutual
theorem tg_ok (c : CxOk τ X ct gi G cf) : ∀ {t : Tg} {e : Expr}, chkTg ct t e = true → PG X e (tG (qx X τ) t) ∧ notStar e = true
  | .nm i, e, h => by
    unfold chkTg at h
    split at h
    · rw [Bool.and_eq_true] at h
      obtain ⟨z1, z2⟩ := c.sto h.2
      exact ⟨sg_name c.nd (c.at (of_decide_eq_true h.1)) z1 z2, rfl⟩
    · cases h
  | .tp n ts, e, h => by
    unfold chkTg at h
    split at h
    · rw [Bool.and_eq_true] at h
      obtain ⟨z1, z2, z3⟩ := tgs_ok c h.2
      have hl : ∀ {es : List Expr} {env : PySem.Env}, es.all notStar = true → (assignEach es env).length = es.length ∧ (assignEach es env).findIdx? (·.1) = none := by
        intro es env hn
        induction es with
        | nil => exact ⟨rfl, rfl⟩
        | cons a es ih =>
          rw [List.all_cons, Bool.and_eq_true] at hn
          have e1 : assignEach (a :: es) env = (false, assign a env) :: assignEach es env := by
            have := hn.1
            cases a <;> first | rfl | cases this
          obtain ⟨i1, i2⟩ := ih hn.2
          rw [e1]
          refine ⟨by rw [List.length_cons, i1, List.length_cons], ?_⟩
          rw [List.findIdx?_cons, i2]
          rfl
      exact ⟨sg_tup c.calm z1 ((hl z2).1.trans (of_decide_eq_true h.1)) (hl z2).2, rfl⟩
    · cases h
theorem tgs_ok (c : CxOk τ X ct gi G cf) : ∀ {ts : List Tg} {es : List Expr}, chkTgs ct ts es = true → PGs X es (tGs (qx X τ) ts) ∧ es.all notStar = true ∧ True
  | [], es, h => by
    cases es with
    | nil => exact ⟨sgs_nil, rfl, trivial⟩
    | cons _ _ => unfold chkTgs at h; cases h
  | t :: ts, es, h => by
    cases es with
    | nil => unfold chkTgs at h; cases h
    | cons e es =>
      unfold chkTgs at h
      rw [Bool.and_eq_true] at h
      obtain ⟨z1, z2⟩ := tg_ok c h.1
      obtain ⟨y1, y2, _⟩ := tgs_ok c h.2
      refine ⟨sgs_cons z1 y1 ?_, by rw [List.all_cons, z2, y2]; rfl, trivial⟩
      cases e <;> first | rfl | cases z2
end
end
end Kp

/-! Kp, part P: what is checked is so: all expressions. Own work. -/
namespace Kp
open PySem PySem.Spec PyProof.Rows L2
section
variable {gi : Gi} {G : List D} {cf : List CF}
theorem ne_of {es : List Expr} (h : (!es.isEmpty) = true) : es ≠ [] := fun e => by subst e; cases h
theorem pe_of {X : Cx} {e : Expr} {r r' : ER} (h : PE X e (tE (qx X τ) r)) (k : r = r') : PE X e (tE (qx X τ) r') := k ▸ h
theorem es_nil {X : Cx} : EsOk τ X G cf .nil [] :=
  ⟨sa_nil, (fun kws h => by
    cases kws with
    | nil => exact sk_nil
    | cons _ _ => cases h), fun _ h => absurd rfl h, fun _ h => absurd rfl h, fun _ => sq_nil⟩
theorem es_cons {X : Cx} {a : E} {as : Es} {e : Expr} {es : List Expr} (hn : notStar e = true) (ha : PE X e (tE (qx X τ) (ev G cf a)) ∧ PT X e (tT (qx X τ) (ev G cf a))) (hr : EsOk τ X G cf as es) (hl : es = [] → as = .nil) (hl' : as = .nil → es = []) : EsOk τ X G cf (.cons a as) (e :: es) where
  pa := sa_cons ha.1 hr.pa (star_ok hn)
  pk := fun kws h => by
    cases kws with
    | nil => cases h
    | cons k kws =>
      obtain ⟨nm, v, p⟩ := k
      rw [List.map_cons] at h
      injection h with h1 h2
      have h1 : v = e := h1
      subst h1
      exact sk_cons ha.1 (hr.pk kws h2)
  ea := fun pos _ => by
    cases es with
    | nil =>
      cases hl rfl
      exact ⟨se_one ha.1, st_one_and ha.2⟩
    | cons b es =>
      cases as with
      | nil => cases hl' rfl
      | cons b' as' => exact ⟨se_and ha.1 (hr.ea pos (by simp)).1, st_and ha.2 (hr.ea pos (by simp)).2⟩
  eo := fun pos _ => by
    cases es with
    | nil =>
      cases hl rfl
      exact ⟨se_one ha.1, st_one_or ha.2⟩
    | cons b es =>
      cases as with
      | nil => cases hl' rfl
      | cons b' as' => exact ⟨se_or ha.1 (hr.eo pos (by simp)).1, st_or ha.2 (hr.eo pos (by simp)).2⟩
  et := fun hlen => by
    cases es with
    | nil =>
      cases hl rfl
      exact sq_one ha.2
    | cons b es => simp at hlen
theorem blk_ok {ct : Ct} {own : List Nat} {scope : Scope} {X : Cx} (c : CxOk τ X ct gi G cf) (h : blkC ct.N ct.sc scope (ownP ct own) = true) : BlkOk X.N X.env.scope scope (ownP ct own) := by
  rw [c.hN, c.sc]
  exact blkOk_by h
mutual
theorem e_ok : ∀ (ir : E) {cf : List CF} {X : Cx} {ct : Ct} {e : Expr}, CxOk τ X ct gi G cf → chkE gi ct ir e = true → PE X e (tE (qx X τ) (ev G cf ir)) ∧ PT X e (tT (qx X τ) (ev G cf ir))
  | .var i, cf, X, ct, e, c, h => by
    unfold chkE at h
    split at h
    · simp only [Bool.and_eq_true, decide_eq_true_eq] at h
      obtain ⟨n1, n2, _⟩ := okName_h h.2
      exact okT (se_var (c.at h.1.1) (c.vis h.1.2) n1 n2) fun _ => rfl
    · cases h
  | .con d, cf, X, ct, e, c, h => by
    unfold chkE at h
    split at h
    · exact okT (con_ok h) fun _ => rfl
    · cases h
  | .glo i, cf, X, ct, e, c, h => by
    unfold chkE at h
    split at h
    · simp only [Bool.and_eq_true, decide_eq_true_eq] at h
      obtain ⟨n1, n2, _⟩ := okName_h h.2
      cases hd : G[i]? with
      | none =>
        refine okT (se_no fun env s => ?_) fun _ => rfl
        show (G[i]?).map (fun d => (d, s)) = none
        rw [hd]
        rfl
      | some d =>
        obtain ⟨v, u, m1, m2, m3⟩ := c.con i _ d h.1.1 hd
        refine okT (pe_of (se_c (pe_glob (c.gl h.1.2) m1 m2 n1) m3) ?_) fun _ => rfl
        funext env s
        show some (d, s) = (G[i]?).map (fun d => (d, s))
        rw [hd]
        rfl
    · cases h
  | .bin o a b, cf, X, ct, e, c, h => by
    unfold chkE at h
    split at h
    · simp only [Bool.and_eq_true] at h
      exact okT (se_bin (opB_ok h.1.1) (e_ok a c h.1.2).1 (e_ok b c h.2).1) fun _ => rfl
    · cases h
  | .neg a, cf, X, ct, e, c, h => by
    unfold chkE at h
    split at h
    · exact okT (se_neg (e_ok a c h).1) fun _ => rfl
    · cases h
  | .not a, cf, X, ct, e, c, h => by
    unfold chkE at h
    split at h
    · exact ⟨se_not (e_ok a c h).1, st_not (e_ok a c h).2⟩
    · cases h
  | .and as, cf, X, ct, e, c, h => by
    unfold chkE at h
    split at h
    · simp only [Bool.and_eq_true] at h
      exact ⟨((es_ok as c h.2).ea _ (ne_of h.1)).1, ((es_ok as c h.2).ea _ (ne_of h.1)).2.pt⟩
    · cases h
  | .or as, cf, X, ct, e, c, h => by
    unfold chkE at h
    split at h
    · simp only [Bool.and_eq_true] at h
      exact ⟨((es_ok as c h.2).eo _ (ne_of h.1)).1, ((es_ok as c h.2).eo _ (ne_of h.1)).2.pt⟩
    · cases h
  | .cmp o a b, cf, X, ct, e, c, h => by
    unfold chkE at h
    split at h
    · simp only [Bool.and_eq_true, Bool.not_eq_true'] at h
      exact ⟨se_cmp (cmpB_ok c.un h.1.1.1) (e_ok a c h.1.2).1 (e_ok b c h.2).1 h.1.1.2, st_cmp (cmpB_ok c.un h.1.1.1) (e_ok a c h.1.2).1 (e_ok b c h.2).1 h.1.1.2⟩
    · cases h
  | .chn o1 o2 a b d, cf, X, ct, e, c, h => by
    unfold chkE at h
    split at h
    · simp only [Bool.and_eq_true, Bool.not_eq_true'] at h
      obtain ⟨⟨⟨⟨⟨h1, h2⟩, h3⟩, h4⟩, h5⟩, h6⟩ := h
      exact ⟨se_chn (cmpB_ok c.un h1) (cmpB_ok c.un h2) (e_ok a c h4).1 (e_ok b c h5).1 (e_ok d c h6).1 h3, st_chn (cmpB_ok c.un h1) (cmpB_ok c.un h2) (e_ok a c h4).1 (e_ok b c h5).1 (e_ok d c h6).1 h3⟩
    · cases h
  | .ite t a b, cf, X, ct, e, c, h => by
    unfold chkE at h
    split at h
    · simp only [Bool.and_eq_true] at h
      exact ⟨se_ite (e_ok t c h.1.1).2 (e_ok a c h.1.2).1 (e_ok b c h.2).1, st_ite (e_ok t c h.1.1).2 (e_ok a c h.1.2).2 (e_ok b c h.2).2⟩
    · cases h
  | .idx a b, cf, X, ct, e, c, h => by
    unfold chkE at h
    split at h
    · simp only [Bool.and_eq_true] at h
      exact okT (se_idx c.un (e_ok a c h.1.2).1 (e_ok b c h.2).1 (ix_plain h.1.1)) fun _ => rfl
    · cases h
  | .slc mu a lo hi, cf, X, ct, e, c, h => by
    unfold chkE at h
    split at h
    · simp only [Bool.and_eq_true] at h
      exact okT (se_slc (e_ok a c h.1.1).1 (o_ok lo c h.1.2) (o_ok hi c h.2)) fun _ => rfl
    · cases h
  | .tup as, cf, X, ct, e, c, h => by
    unfold chkE at h
    split at h
    · exact okT (se_tup (es_ok as c h).pa) fun _ => rfl
    · cases h
  | .lst mu as, cf, X, ct, e, c, h => by
    unfold chkE at h
    split at h
    · exact okT (se_lst (es_ok as c h).pa) fun _ => rfl
    · cases h
  | .dnew, cf, X, ct, e, c, h => by
    unfold chkE at h
    split at h
    · exact okT se_dnew fun _ => rfl
    · cases h
  | .call f as, cf, X, ct, e, c, h => by
    unfold chkE at h
    split at h
    · simp only [Bool.and_eq_true] at h
      exact okT (ok_call c h.1.1.1 h.1.1.2 h.1.2 h.2 (es_ok as c h.2)) fun _ => rfl
    · cases h
  | .callk f as ks nms perm, cf, X, ct, e, c, h => by
    unfold chkE at h
    split at h
    · simp only [Bool.and_eq_true] at h
      obtain ⟨⟨⟨⟨⟨h1, h2⟩, h3⟩, h4⟩, h5⟩, h6⟩ := h
      exact okT (ok_callk c h1 h2 h3 (of_decide_eq_true h4) h5 h6 (es_ok as c h5) (es_ok ks c h6)) fun _ => rfl
    · cases h
  | .bi b mu as, cf, X, ct, e, c, h => by
    unfold chkE at h
    split at h
    · simp only [Bool.and_eq_true] at h
      exact okT (ok_bi c h.1.1 h.1.2 h.2 (es_ok as c h.2)) fun _ => rfl
    · cases h
  | .rgl tu mu a, cf, X, ct, e, c, h => by
    unfold chkE at h
    split at h
    · simp only [Bool.and_eq_true, decide_eq_true_eq] at h
      obtain ⟨⟨⟨⟨⟨h1, h2⟩, h3⟩, h4⟩, h5⟩, h6⟩ := h
      subst h1
      subst h2
      cases tu with
      | true => exact okT (se_tupRg c.calm (c.gl h3) (c.blt _ (by decide)) (c.gl h4) (c.blt _ (by decide)) (e_ok a c h6).1 (star_ok h5)) fun _ => rfl
      | false => exact okT (se_listRg c.calm (c.gl h3) (c.blt _ (by decide)) (c.gl h4) (c.blt _ (by decide)) (e_ok a c h6).1 (star_ok h5)) fun _ => rfl
    · cases h
  | .mt m o as, cf, X, ct, e, c, h => by
    unfold chkE at h
    split at h
    · simp only [Bool.and_eq_true] at h
      obtain ⟨⟨⟨⟨h1, h2⟩, h3⟩, h4⟩, h5⟩ := h
      exact okT (ok_mt c h1 h2 h3 h5 (e_ok o c h4).1 (es_ok as c h5)) fun _ => rfl
    · cases h
  | .isi a t, cf, X, ct, e, c, h => by
    unfold chkE at h
    split at h
    · simp only [Bool.and_eq_true, decide_eq_true_eq] at h
      obtain ⟨⟨⟨⟨⟨h1, h2⟩, h3⟩, h4⟩, h5⟩, h6⟩ := h
      subst h1
      subst h2
      exact okT (ok_isi c h3 h4 h5 (e_ok a c h6).1) fun _ => rfl
    · cases h
  | .isn a, cf, X, ct, e, c, h => by
    unfold chkE at h
    split at h
    · exact ⟨se_isn (e_ok a c h).1, st_isn (e_ok a c h).1⟩
    · cases h
  | .ntn a, cf, X, ct, e, c, h => by
    unfold chkE at h
    split at h
    · exact ⟨se_ntn (e_ok a c h).1, st_ntn (e_ok a c h).1⟩
    · cases h
  | .lc mu own t it ifs el, cf, X, ct, e, c, h => by
    unfold chkE at h
    split at h
    · simp only [Bool.and_eq_true] at h
      obtain ⟨⟨⟨⟨⟨⟨⟨⟨h1, h2⟩, h3⟩, h4⟩, h5⟩, h6⟩, h7⟩, h8⟩, h9⟩ := h
      have h1 := of_decide_eq_true h1
      subst h1
      have hsl : ∀ i ∈ slots t, i ∈ (ownP ct own).map (·.2) := fun i hi => by
        rw [ownP_snd]
        have := List.all_eq_true.mp h3 i hi
        simpa using this
      refine okT (pe_of (se_lc (mu := mu) c.calm c.nd (i_ok it c h5) (blk_ok c h2) (fun s H C cl fp => (tg_ok (c.blk _ s H C cl fp) h6).1) (fun s H C cl fp => (es_ok ifs (c.blk _ s H C cl fp) h8).et (of_decide_eq_true h7)) (fun s H C cl fp => (e_ok el (c.blk _ s H C cl fp) h9).1) (set_plain h4) hsl) ?_) fun _ => rfl
      rw [ownP_snd]
      rfl
    · cases h
  | .gx k own t it ifs el, cf, X, ct, e, c, h => by
    unfold chkE at h
    split at h
    · simp only [Bool.and_eq_true] at h
      obtain ⟨⟨⟨⟨⟨⟨⟨⟨⟨⟨⟨⟨⟨⟨⟨h1, h2⟩, h3⟩, h4⟩, h5⟩, h6⟩, h7⟩, h8⟩, h9⟩, h10⟩, h11⟩, h12⟩, h13⟩, h14⟩, h15⟩, h16⟩ := h
      have h1 := of_decide_eq_true h1
      subst h1
      have h4 := of_decide_eq_true h4
      subst h4
      have hsl : ∀ i ∈ slots t, i ∈ (ownP ct own).map (·.2) := fun i hi => by
        rw [ownP_snd]
        have := List.all_eq_true.mp h9 i hi
        simpa using this
      have hnc : ∀ y ∈ (‹Scope›).names, y.2 ≠ NameKind.cell := fun y hy => by
        have := List.all_eq_true.mp h6 y hy
        simpa using this
      cases cf with
      | nil => exact okT (se_no fun env s => rfl) fun _ => rfl
      | cons cc rest =>
        obtain ⟨cd, P, TB, hcode, hP⟩ := c.tab h3
        have hmg : X.mg k.nm = none := c.blt _ (by cases k <;> decide)
        refine okT (pe_of (se_gx (nn := rest.length) c.room (c.gl h2) hmg c.nd TB hcode hP (i_ok it c h12) (blk_ok c h5) hnc (by simpa using h7) (of_decide_eq_true h8)
          (fun A s H C code fp pn hr => (tg_ok (c.gen _ A s H C code fp pn hr) h13).1) (fun A s H C code fp pn hr => (es_ok ifs (c.gen _ A s H C code fp pn hr) h15).et (of_decide_eq_true h14)) (fun A s H C code fp pn hr => (e_ok el (c.gen _ A s H C code fp pn hr) h16).1) (gen_plain h10 h11) hsl) ?_) fun _ => rfl
        rw [ownP_snd]
        rfl
    · cases h
theorem es_ok : ∀ (as : Es) {cf : List CF} {X : Cx} {ct : Ct} {es : List Expr}, CxOk τ X ct gi G cf → chkEs gi ct as es = true → EsOk τ X G cf as es
  | .nil, cf, X, ct, es, c, h => by
    cases es with
    | nil => exact es_nil
    | cons _ _ => unfold chkEs at h; cases h
  | .cons a as, cf, X, ct, es, c, h => by
    cases es with
    | nil => unfold chkEs at h; cases h
    | cons e es =>
      unfold chkEs at h
      simp only [Bool.and_eq_true] at h
      refine es_cons h.1.1 (e_ok a c h.1.2) (es_ok as c h.2) (fun e => ?_) fun e => ?_
      · subst e
        cases as with
        | nil => rfl
        | cons _ _ => have z := h.2; unfold chkEs at z; cases z
      · subst e
        cases es with
        | nil => rfl
        | cons _ _ => have z := h.2; unfold chkEs at z; cases z
theorem o_ok : ∀ (o : Eo) {cf : List CF} {X : Cx} {ct : Ct} {e : Option Expr}, CxOk τ X ct gi G cf → chkO gi ct o e = true → PO X e (tO (qx X τ) (evo G cf o))
  | .none, cf, X, ct, e, c, h => by
    cases e with
    | none => exact so_none
    | some _ => unfold chkO at h; cases h
  | .some a, cf, X, ct, e, c, h => by
    cases e with
    | none => unfold chkO at h; cases h
    | some e =>
      unfold chkO at h
      exact so_some (e_ok a c h).1
theorem i_ok : ∀ (it : It) {cf : List CF} {X : Cx} {ct : Ct} {tg e : Expr}, CxOk τ X ct gi G cf → chkI gi ct it tg e = true → PI X tg e (tI (qx X τ) (evi G cf it))
  | .seq a, cf, X, ct, tg, e, c, h => by
    unfold chkI at h
    exact si_seq (e_ok a c h).1
  | .rng a, cf, X, ct, tg, e, c, h => by
    unfold chkI at h
    split at h
    · simp only [Bool.and_eq_true, decide_eq_true_eq] at h
      obtain ⟨⟨⟨h1, h2⟩, h3⟩, h4⟩ := h
      subst h1
      exact si_rng (c.gl h2) (c.blt _ (by decide)) (e_ok a c h4).1 (star_ok h3)
    · cases h
  | .rng2 a b, cf, X, ct, tg, e, c, h => by
    unfold chkI at h
    split at h
    · simp only [Bool.and_eq_true, decide_eq_true_eq] at h
      obtain ⟨⟨⟨⟨⟨h1, h2⟩, h3⟩, h4⟩, h5⟩, h6⟩ := h
      subst h1
      exact si_rng2 (c.gl h2) (c.blt _ (by decide)) (e_ok a c h5).1 (e_ok b c h6).1 (by rw [star_ok h3, star_ok h4]; rfl) (star_ok h4)
    · cases h
  | .zip a b, cf, X, ct, tg, e, c, h => by
    unfold chkI at h
    split at h
    · simp only [Bool.and_eq_true, decide_eq_true_eq] at h
      obtain ⟨⟨⟨⟨⟨h1, h2⟩, h3⟩, h4⟩, h5⟩, h6⟩ := h
      subst h1
      exact si_zip (c.gl h2) (c.blt _ (by decide)) (e_ok a c h5).1 (e_ok b c h6).1 (star_ok h3) (star_ok h4) (by rw [star_ok h4]; rfl)
    · cases h
  | .enum a, cf, X, ct, tg, e, c, h => by
    unfold chkI at h
    split at h
    · simp only [Bool.and_eq_true, decide_eq_true_eq] at h
      obtain ⟨⟨⟨h1, h2⟩, h3⟩, h4⟩ := h
      subst h1
      exact si_enum (c.gl h2) (c.blt _ (by decide)) (e_ok a c h4).1 (star_ok h3)
    · cases h
end
end
end Kp

/-! Kp, part Q: what is checked is so: statements, defs. Own work. -/
namespace Kp
open PySem PySem.Spec PyProof.Rows L2
section
variable {gi : Gi} {G : List D} {cf : List CF} {X : Cx} {ct : Ct}
theorem sw_ok (hsc : X.env.scope = ct.sc) {v tg : Expr} {l : Nat} (h : swB ct v (some tg) = true) : swapsWith v (some tg) l X.env = pure false := by
  cases v with
  | ListComp e g s p =>
    cases tg with
    | Name t pos =>
      have h : (!(decide (ct.sc.names.lookup t = some .local) && (pos.line == p.line) && !(s.names.any fun (n, k) => n == t && (k == .local || k == .cell)))) = true := h
      show (pure (X.env.blockKind == .function && X.env.kindOf t == some .local && pos.line == p.line && !(s.names.any fun (n, k) => n == t && (k == .local || k == .cell))) : Sem Bool) = pure false
      refine congrArg pure ?_
      have hk : (X.env.kindOf t == some NameKind.local) = decide (ct.sc.names.lookup t = some .local) := by
        show (X.env.scope.names.lookup t == some NameKind.local) = _
        rw [hsc]
        rw [Bool.eq_iff_iff, beq_iff_eq, decide_eq_true_eq]
      rw [hk]
      rw [Bool.not_eq_true'] at h
      rw [Bool.and_assoc, Bool.and_assoc]
      rw [Bool.and_assoc] at h
      rw [h, Bool.and_false]
    | _ => rfl
  | SetComp _ _ _ _ => cases h
  | DictComp _ _ _ _ _ => cases h
  | _ => rfl
theorem sw_none {v : Expr} {l : Nat} (h : swB ct v none = true) : swapsWith v none l X.env = pure false := by
  cases v <;> first | rfl | cases h
theorem no_par {tg v : Expr} (h : (notTup tg || notTup v) = true) (hs : notStar tg = true) : swappedStores [tg] v X.env = pure none := by
  cases tg <;> first | rfl | (cases v <;> first | rfl | cases h)
theorem par_ok (hsc : X.env.scope = ct.sc) {ts vs : List Expr} {k k2 : Nat} {p p2 : Pos} {xs : List Str} (h : parB ct.sc ts vs xs = true) : swappedStores [.Tuple ts k p] (.Tuple vs k2 p2) X.env = pure (some xs) := by
  unfold parB at h
  simp only [Bool.and_eq_true, Bool.not_eq_true', decide_eq_true_eq] at h
  obtain ⟨⟨⟨⟨⟨⟨⟨h1, h2⟩, h3⟩, h4⟩, h5⟩, h6⟩, h7⟩, h8⟩ := h
  have hb : (X.env.blockKind != .function) = false := by
    unfold Env.blockKind
    rw [hsc, h3]
    rfl
  have key : ∀ F : Expr → Option Str, (∀ x, F x = parN ct.sc ((ts.head?.map (·.pos.line)).getD 0) x) → ts.filterMap F = xs := fun F hF => by
    rw [← h5]
    exact congrArg (fun f => ts.filterMap f) (funext hF)
  have hS : ∀ F : Expr → Bool, (∀ x, F x = isStarred x) → vs.any F = false := fun F hF => by
    rw [← h4]
    exact congrArg (fun f => vs.any f) (funext hF)
  unfold swappedStores
  dsimp only
  rw [key]
  · rw [if_neg (by rw [hb, Bool.or_false]; simp [h1, bne, h2]), if_neg (by rw [hS]; exact Bool.false_ne_true; intro x; cases x <;> rfl), if_neg (by rw [h6]; exact Bool.false_ne_true), if_neg (by rw [h7]; exact Bool.false_ne_true), if_neg (by rw [h8]; exact Bool.false_ne_true)]
  · intro x
    cases x with
    | Name id pos =>
      show (if X.env.scope.names.lookup id == some .local && pos.line == _ then some id else none) = _
      rw [hsc]
      rfl
    | _ => rfl

theorem par_no (hsc : X.env.scope = ct.sc) {ts vs : List Expr} {k k2 : Nat} {p p2 : Pos} (h : parNone ct.sc ts vs = true) : swappedStores [.Tuple ts k p] (.Tuple vs k2 p2) X.env = pure none := by
  unfold parNone at h
  unfold swappedStores
  dsimp only
  by_cases h1 : (ts.length == 2 || ts.length == 3) = true
  · rw [h1, Bool.not_true, Bool.false_or] at h
    simp only [Bool.and_eq_true, Bool.not_eq_true', decide_eq_true_eq] at h
    obtain ⟨⟨⟨h4, h3⟩, h2⟩, h5⟩ := h
    have hb : (X.env.blockKind != .function) = false := by
      unfold Env.blockKind
      rw [hsc, h3]
      rfl
    have hS : ∀ F : Expr → Bool, (∀ x, F x = isStarred x) → vs.any F = false := fun F hF => by
      rw [← h4]
      exact congrArg (fun f => vs.any f) (funext hF)
    have key : ∀ F : Expr → Option Str, (∀ x, F x = parN ct.sc ((ts.head?.map (·.pos.line)).getD 0) x) → ts.filterMap F = ts.filterMap (parN ct.sc ((ts.head?.map (·.pos.line)).getD 0)) := fun F hF =>
      congrArg (fun f => ts.filterMap f) (funext hF)
    rw [key]
    · rw [if_neg (by rw [hb, Bool.or_false]; simp [h1, bne, h2]), if_neg (by rw [hS]; exact Bool.false_ne_true; intro x; cases x <;> rfl)]
      rw [Bool.or_eq_true] at h5
      rcases h5 with h5 | h5
      · rw [if_pos (by rw [h5, Bool.true_or])]
      · rw [if_pos h5]
        split <;> rfl
    · intro x
      cases x with
      | Name id pos =>
        show (if X.env.scope.names.lookup id == some .local && pos.line == _ then some id else none) = _
        rw [hsc]
        rfl
      | _ => rfl
  · have h1 : (ts.length == 2 || ts.length == 3) = false := by simpa using h1
    rw [if_pos (by rw [h1]; rfl)]
theorem no_par3 (hsc : X.env.scope = ct.sc) {tg v : Expr} (h : (notTup tg || notTup v || parNoneE ct.sc tg v) = true) (hs : notStar tg = true) : swappedStores [tg] v X.env = pure none := by
  rw [Bool.or_eq_true] at h
  rcases h with h | h
  · exact no_par h hs
  · cases tg with
    | Tuple ts k p => cases v with
      | Tuple vs k2 p2 => exact par_no hsc h
      | _ => cases h
    | _ => cases h
theorem asg_one {tg : Expr} {env : PySem.Env} (h : notStar tg = true) : (assignEach [tg] env).map (·.2) = [assign tg env] := by
  cases tg <;> first | rfl | cases h
theorem sset_sw {v o i : Expr} {p p2 : Pos} {l : Nat} {env : PySem.Env} (h : swB ct v (some (.Subscript o i p)) = true) : swapsWithSole [.Subscript o i p2] v l env = pure false := by
  cases v <;> first | rfl | cases h
theorem sset_as {o i : Expr} {p : Pos} {env : PySem.Env} (h : notSlice i = true) (v : Value) : assign (.Subscript o i p) env v = (do
      let ov ← holding [v] (eval o env)
      let iv ← holding [v, ov] (eval i env)
      standAt p
      holding [v, ov, iv] (setItem ov iv v)
      release [v, ov, iv] []) := by
  cases i <;> first | rfl | cases h
theorem os_ipl {mu : Bool} : OpS X (inplaceOp .Add) (iopD (.add mu)) := by
  intro τ pins sh σ H x y v u Q φ s d e d' s' I rx ry r hx hy h hq
  cases d with
  | int i =>
    cases e with
    | int j =>
      cases hx; cases hy; cases h
      exact iop_add pins sh σ H _ _ v u Q I rx ry ⟨i, j, rfl, rfl, hq.now r (.int _)⟩
    | _ => cases h
  | str i =>
    cases e with
    | str j =>
      cases hx with
      | str _ o1 =>
        cases hy with
        | str _ o2 =>
          have h : (if i.length + j.length ≤ lim then some (D.str (i ++ j), s) else none) = some (d', s') := h
          by_cases hl : i.length + j.length ≤ lim
          · rw [if_pos hl] at h
            cases h
            exact iop_add_str pins sh σ H _ _ v u Q I rx ry ⟨i, j, rfl, rfl, lim_lt hl, hq.now r (.str _ (allOk_app o1 o2))⟩
          · rw [if_neg hl] at h
            cases h
    | _ => cases h
  | _ => cases h
theorem os_isub : OpS X (inplaceOp .Sub) (iopD .sub) := by
  intro τ pins sh σ H x y v u Q φ s d e d' s' I rx ry r hx hy h hq
  cases d with
  | int i =>
    cases e with
    | int j =>
      cases hx; cases hy; cases h
      exact iop_sub pins sh σ H _ _ v u Q I rx ry ⟨i, j, rfl, rfl, hq.now r (.int _)⟩
    | _ => cases h
  | _ => cases h
theorem os_imul {mu : Bool} : OpS X (inplaceOp .Mult) (iopD (.mul mu)) := by
  intro τ pins sh σ H x y v u Q φ s d e d' s' I rx ry r hx hy h hq
  cases d with
  | int i =>
    cases e with
    | int j =>
      cases hx; cases hy
      have h : (if smallI i || smallI j then some (D.int (i * j), s) else none) = some (d', s') := h
      by_cases hl : (smallI i || smallI j) = true
      · rw [if_pos hl] at h
        cases h
        exact iop_mul pins sh σ H _ _ v u Q I rx ry ⟨i, j, rfl, rfl, smallI_ok hl, hq.now r (.int _)⟩
      · rw [if_neg hl] at h
        cases h
    | _ => cases h
  | _ => cases h
theorem os_imod : OpS X (inplaceOp .Mod) (iopD .mod) := by
  intro τ pins sh σ H x y v u Q φ s d e d' s' I rx ry r hx hy h hq
  cases d with
  | int i =>
    cases e with
    | int j =>
      cases hx; cases hy
      have h : (if 0 < j then some (D.int (i % j), s) else none) = some (d', s') := h
      by_cases hl : 0 < j
      · rw [if_pos hl] at h
        cases h
        exact iop_mod pins sh σ H _ _ v u Q I rx ry ⟨i, j, rfl, rfl, hl, hq.now r (.int _)⟩
      · rw [if_neg hl] at h
        cases h
    | _ => cases h
  | _ => cases h
theorem os_ifdiv : OpS X (inplaceOp .FloorDiv) (iopD .fdiv) := by
  intro τ pins sh σ H x y v u Q φ s d e d' s' I rx ry r hx hy h hq
  cases d with
  | int i =>
    cases e with
    | int j =>
      cases hx; cases hy
      have h : (if 0 < j ∧ j < 1073741824 then some (D.int (i / j), s) else none) = some (d', s') := h
      by_cases hl : 0 < j ∧ j < 1073741824
      · rw [if_pos hl] at h
        cases h
        exact iop_fdiv pins sh σ H _ _ v u Q I rx ry ⟨i, j, rfl, rfl, hl, hq.now r (.int _)⟩
      · rw [if_neg hl] at h
        cases h
    | _ => cases h
  | _ => cases h
theorem iopB_ok {o : BOp} {op : Operator} (h : iopB o op = true) : OpS X (inplaceOp op) (iopD o) := by
  cases o with
  | add mu => cases op <;> first | exact absurd h Bool.false_ne_true | exact os_ipl
  | sub => cases op <;> first | exact absurd h Bool.false_ne_true | exact os_isub
  | mul mu => cases op <;> first | exact absurd h Bool.false_ne_true | exact os_imul
  | mod => cases op <;> first | exact absurd h Bool.false_ne_true | exact os_imod
  | fdiv => cases op <;> first | exact absurd h Bool.false_ne_true | exact os_ifdiv
  | pow => cases op <;> exact absurd h Bool.false_ne_true
theorem ps_of {st : Stmt} {r r' : SR} (h : PS X st (tS (qx X τ) r)) (k : r = r') : PS X st (tS (qx X τ) r') := k ▸ h
theorem parT_inv2 {i : Nat} {is : List Nat} {ts : List Expr} {xs : List Str} (h : parT ct (i :: is) ts = some xs) : ∃ x p es ys, ts = .Name x p :: es ∧ xs = x :: ys ∧ ct.N[i]? = some x ∧ ct.sc.names.lookup x = some .local ∧ parT ct is es = some ys := by
  cases ts with
  | nil => unfold parT at h; cases h
  | cons t es =>
    cases t with
    | Name x p =>
      have h : (if decide (ct.N[i]? = some x) && decide (ct.sc.names.lookup x = some .local) then (parT ct is es).map (x :: ·) else none) = some xs := h
      by_cases hh : (decide (ct.N[i]? = some x) && decide (ct.sc.names.lookup x = some .local)) = true
      · rw [if_pos hh] at h
        simp only [Bool.and_eq_true, decide_eq_true_eq] at hh
        cases hp : parT ct is es with
        | none => rw [hp] at h; cases h
        | some ys =>
          rw [hp] at h
          cases h
          exact ⟨x, p, es, ys, rfl, rfl, hh.1, hh.2, hp⟩
      · rw [if_neg hh] at h
        cases h
    | _ => cases h
theorem parT_nil {ts : List Expr} {xs : List Str} (h : parT ct [] ts = some xs) : ts = [] ∧ xs = [] := by
  cases ts with
  | nil => cases h; exact ⟨rfl, rfl⟩
  | cons t es => cases h
theorem ok_par (c : CxOk τ X ct gi G cf) {is : List Nat} {as : Es} {ts vs : List Expr} {k k2 : Nat} {p p2 pos : Pos} (hp : (match parT ct is ts with
      | some xs => parB ct.sc ts vs xs
      | none => false) = true) (hnd : is.Nodup) (hs : chkEs gi ct as vs = true) : PS X (.Assign [.Tuple ts k p] (.Tuple vs k2 p2) pos) (tS (qx X τ) (ex G cf (.par is as))) := by
  have ha := (es_ok as c hs).pa
  cases hx : parT ct is ts with
  | none => rw [hx] at hp; cases hp
  | some xs =>
    rw [hx] at hp
    have hw := par_ok (k := k) (k2 := k2) (p := p) (p2 := p2) c.sc hp
    have hp0 := hp
    unfold parB at hp
    simp only [Bool.and_eq_true, Bool.not_eq_true', decide_eq_true_eq] at hp
    have hlen := hp.1.1.1.1.1.1.1
    have hvl := hp.1.1.1.1.1.1.2
    rw [beq_iff_eq] at hvl
    simp only [Bool.or_eq_true, beq_iff_eq] at hlen
    match is, hx, hnd with
    | [], hx, _ =>
      obtain ⟨rfl, rfl⟩ := parT_nil hx
      simp at hlen
    | [i], hx, _ =>
      obtain ⟨x, q, es, ys, rfl, rfl, e1, e2, hx⟩ := parT_inv2 hx
      obtain ⟨rfl, rfl⟩ := parT_nil hx
      simp at hlen
    | [i, j], hx, nd =>
      obtain ⟨x, q, es, ys, rfl, rfl, e1, e2, hx⟩ := parT_inv2 hx
      obtain ⟨y, q', es, ys, rfl, rfl, e3, e4, hx⟩ := parT_inv2 hx
      obtain ⟨rfl, rfl⟩ := parT_nil hx
      match vs, hvl with
      | [a, b], _ =>
        have hij : i ≠ j := by simp at nd; exact nd
        exact ss_par2 c.calm c.nd (c.at e1) (c.at e3) hij (by rw [c.sc]; exact e2) (by rw [c.sc]; exact e4) ha hw rfl
    | [i, j, l], hx, nd =>
      obtain ⟨x, q, es, ys, rfl, rfl, e1, e2, hx⟩ := parT_inv2 hx
      obtain ⟨y, q', es, ys, rfl, rfl, e3, e4, hx⟩ := parT_inv2 hx
      obtain ⟨z, q'', es, ys, rfl, rfl, e5, e6, hx⟩ := parT_inv2 hx
      obtain ⟨rfl, rfl⟩ := parT_nil hx
      match vs, hvl with
      | [a, b, d], _ =>
        simp at nd
        exact ss_par3 c.calm c.nd (c.at e1) (c.at e3) (c.at e5) nd.1.1 nd.1.2 nd.2 (by rw [c.sc]; exact e2) (by rw [c.sc]; exact e4) (by rw [c.sc]; exact e6) ha hw rfl
    | i :: j :: l :: m :: is, hx, _ =>
      obtain ⟨x, q, es, ys, rfl, rfl, e1, e2, hx⟩ := parT_inv2 hx
      obtain ⟨y, q', es, ys, rfl, rfl, e3, e4, hx⟩ := parT_inv2 hx
      obtain ⟨z, q'', es, ys, rfl, rfl, e5, e6, hx⟩ := parT_inv2 hx
      obtain ⟨u, q3, es, ys, rfl, rfl, e5, e6, hx⟩ := parT_inv2 hx
      simp at hlen
mutual
theorem s_ok : ∀ (ir : St) {X : Cx} {ct : Ct} {st : Stmt}, CxOk τ X ct gi G cf → chkS gi ct ir st = true → PS X st (tS (qx X τ) (ex G cf ir))
  | .asg t a, X, ct, st, c, h => by
    unfold chkS at h
    split at h
    · simp only [Bool.and_eq_true] at h
      obtain ⟨⟨⟨h1, h2⟩, h3⟩, h4⟩ := h
      obtain ⟨z1, z2⟩ := tg_ok c h3
      refine ss_asg (e_ok a c h4).1 z1 (sw_ok c.sc h1) (no_par3 c.sc h2 z2) (asg_one z2)
    · cases h
  | .asgLc i mu own t it ifs el, X, ct, st, c, h => by
    unfold chkS at h
    split at h
    · simp only [Bool.and_eq_true] at h
      obtain ⟨⟨⟨⟨⟨⟨⟨⟨⟨⟨⟨⟨⟨g1, g2⟩, g3⟩, g4⟩, g5⟩, h1⟩, h2⟩, h3⟩, h4⟩, h5⟩, h6⟩, h7⟩, h8⟩, h9⟩ := h
      have h1 := of_decide_eq_true h1
      subst h1
      have hsl : ∀ i ∈ slots t, i ∈ (ownP ct own).map (·.2) := fun i hi => by
        rw [ownP_snd]
        have := List.all_eq_true.mp h3 i hi
        simpa using this
      have g2' := of_decide_eq_true g2
      rw [← c.sc] at g2'
      have g3' : X.env.scope.kind = .function := by rw [c.sc]; exact of_decide_eq_true g3
      rw [Bool.not_eq_true'] at g5
      refine ps_of (ss_asgLc (mu := mu) c.calm c.nd (c.at (of_decide_eq_true g1)) g2' (sw_true g3' g2' g4 g5) (i_ok it c h5) (blk_ok c h2) (fun s H C cl fp => (tg_ok (c.blk _ s H C cl fp) h6).1) (fun s H C cl fp => (es_ok ifs (c.blk _ s H C cl fp) h8).et (of_decide_eq_true h7)) (fun s H C cl fp => (e_ok el (c.blk _ s H C cl fp) h9).1) (set_plain h4) hsl) ?_
      rw [ownP_snd]
      rfl
    · cases h
  | .par is as, X, ct, st, c, h => by
    unfold chkS at h
    split at h
    · simp only [Bool.and_eq_true] at h
      exact ok_par c h.1.1 (of_decide_eq_true h.1.2) h.2
    · cases h
  | .sset o i a, X, ct, st, c, h => by
    unfold chkS at h
    split at h
    · simp only [Bool.and_eq_true] at h
      obtain ⟨⟨⟨⟨h1, h2⟩, h3⟩, h4⟩, h5⟩ := h
      exact ss_sset c.un (e_ok a c h5).1 (e_ok o c h3).1 (e_ok i c h4).1 (sset_sw h1) rfl (sset_as h2)
    · cases h
  | .aug i o a, X, ct, st, c, h => by
    unfold chkS at h
    split at h
    · simp only [Bool.and_eq_true] at h
      obtain ⟨⟨⟨h1, h2⟩, h3⟩, h4⟩ := h
      obtain ⟨z1, z2⟩ := c.sto h2
      exact ss_aug c.nd (c.at (of_decide_eq_true h1)) z1 (e_ok a c h4).1 (iopB_ok h3) z2
    · cases h
  | .exp a, X, ct, st, c, h => by
    unfold chkS at h
    split at h
    · simp only [Bool.and_eq_true] at h
      exact ss_exp (e_ok a c h.2).1 (sw_none h.1)
    · cases h
  | .ret a, X, ct, st, c, h => by
    unfold chkS at h
    split at h
    · exact ss_ret (e_ok a c h).1
    · cases h
  | .retn, X, ct, st, c, h => by
    unfold chkS at h
    split at h
    · exact ss_retn
    · cases h
  | .ifs t a b, X, ct, st, c, h => by
    unfold chkS at h
    split at h
    · simp only [Bool.and_eq_true] at h
      exact ss_if (e_ok t c h.1.1).2 (ss_ok a c h.1.2) (ss_ok b c h.2)
    · cases h
  | .whl t b, X, ct, st, c, h => by
    unfold chkS at h
    split at h
    · simp only [Bool.and_eq_true] at h
      exact ss_while c.xe (e_ok t c h.1).2 (ss_ok b c h.2) wfuel
    · cases h
  | .fr t it b, X, ct, st, c, h => by
    unfold chkS at h
    split at h
    · simp only [Bool.and_eq_true] at h
      obtain ⟨⟨⟨h1, h2⟩, h3⟩, h4⟩ := h
      exact ss_for c.xe c.calm (i_ok it c h3) (tg_ok c h2).1 (ss_ok b c h4) (set_plain h1)
    · cases h
  | .brk, X, ct, st, c, h => by
    unfold chkS at h
    split at h
    · exact ss_brk
    · cases h
  | .cnt, X, ct, st, c, h => by
    unfold chkS at h
    split at h
    · exact ss_cnt
    · cases h
  | .pas, X, ct, st, c, h => by
    unfold chkS at h
    split at h
    · exact ss_pas
    · cases h
theorem ss_ok : ∀ (ir : Ss) {X : Cx} {ct : Ct} {sts : List Stmt}, CxOk τ X ct gi G cf → chkSs gi ct ir sts = true → PSs X sts (tS (qx X τ) (exs G cf ir))
  | .nil, X, ct, sts, c, h => by
    cases sts with
    | nil => exact sss_nil
    | cons _ _ => unfold chkSs at h; cases h
  | .cons s ss, X, ct, sts, c, h => by
    cases sts with
    | nil => unfold chkSs at h; cases h
    | cons st sts =>
      unfold chkSs at h
      rw [Bool.and_eq_true] at h
      exact sss_cons (s_ok s c h.1) (ss_ok ss c h.2)
end
end
end Kp

/-! Kp, part R: defs, all levels, the law. Own work. -/
namespace Kp
open PySem PySem.Spec PyProof.Rows L2
section
variable {K : Kq} {φ φ1 : Ph} {n n1 : Nat} {H H1 : Hp} {s s1 : S} {d : D} {ds : List D}
mutual
theorem RV.lowD : ∀ (d : D) {v : V}, RV K φ n H v d → low n d = true
  | .non, _, h => rfl
  | .bl b, _, h => rfl
  | .int i, _, h => rfl
  | .str y, _, h => rfl
  | .ref i, _, h => by cases h with
    | ref _ q => exact decide_eq_true q
  | .tup ds, _, h => by cases h with
    | tup q r => exact RVs.lowD ds r
  | .lst ds, _, h => by cases h with
    | lst q nc nf r => exact RVs.lowD ds r
  | .rol ds, _, h => by cases h with
    | rol q r => exact RVs.lowD ds r
theorem RVs.lowD : ∀ (ds : List D) {vs : List V}, RVs K φ n H vs ds → lows n ds = true
  | [], _, h => rfl
  | d :: ds, _, h => by cases h with
    | cons h r =>
      show (low n d && lows n ds) = true
      rw [RV.lowD d h, RVs.lowD ds r]
      rfl
end
mutual
theorem RV.down (hn : n1 ≤ n) : ∀ (d : D) {v : V}, low n1 d = true → RV K φ n H v d → RV K φ n1 H v d
  | .non, _, _, h => by cases h; exact .non
  | .bl b, _, _, h => by cases h; exact .bl b
  | .int i, _, _, h => by cases h; exact .int i
  | .str y, _, _, h => by cases h with
    | str _ q => exact .str y q
  | .ref i, _, l, h => by cases h with
    | ref _ q => exact .ref i (of_decide_eq_true l)
  | .tup ds, _, l, h => by cases h with
    | tup q r => exact .tup q (RVs.down hn ds l r)
  | .lst ds, _, l, h => by cases h with
    | lst q nc nf r => exact .lst q (fun i hi => nc i (by omega)) nf (RVs.down hn ds l r)
  | .rol ds, _, l, h => by cases h with
    | rol q r => exact .rol q (RVs.down hn ds l r)
theorem RVs.down (hn : n1 ≤ n) : ∀ (ds : List D) {vs : List V}, lows n1 ds = true → RVs K φ n H vs ds → RVs K φ n1 H vs ds
  | [], _, _, h => by cases h; exact .nil
  | d :: ds, _, l, h => by
    have l : (low n1 d && lows n1 ds) = true := l
    rw [Bool.and_eq_true] at l
    cases h with
    | cons h r => exact .cons (RV.down hn d l.1 h) (RVs.down hn ds l.2 r)
end
theorem CellR.lowD {a : Addr} {c : C} (h : CellR K φ n H a c) : cellLow n c = true := by
  cases c with
  | lst es =>
    obtain ⟨vs, _, y2⟩ := h
    exact y2.lowD
  | dct kvs =>
    show (kvs.all fun p => low n p.1 && low n p.2) = true
    rw [List.all_eq_true]
    intro p hp
    rw [Bool.and_eq_true]
    rcases h with ⟨xs, _, h2⟩ | ⟨xs, _, h2, _⟩
    · obtain ⟨q, hq⟩ := Paired.right h2 p hp
      exact ⟨hq.1.lowD, hq.2.lowD⟩
    · obtain ⟨q, hq⟩ := Paired.right h2 p hp
      exact ⟨hq.2.2.1.lowD, hq.2.2.2.lowD⟩
  | ins _ _ => exact h.elim
theorem paired_all {α β : Type} {F G : α → β → Prop} {q : β → Bool} : ∀ {as : List α} {bs : List β}, Paired F as bs → bs.all q = true → (∀ a b, q b = true → F a b → G a b) → Paired G as bs
  | _, _, .nil, _, _ => .nil
  | _, _, .cons h t, e, k => by
    rw [List.all_cons, Bool.and_eq_true] at e
    exact .cons (k _ _ e.1 h) (paired_all t e.2 k)
theorem CellR.down (hn : n1 ≤ n) {a : Addr} {c : C} (l : cellLow n1 c = true) (h : CellR K φ n H a c) : CellR K φ n1 H a c := by
  cases c with
  | lst es =>
    obtain ⟨vs, z1, z2⟩ := h
    exact ⟨vs, z1, z2.down hn _ l⟩
  | dct kvs =>
    have l : (kvs.all fun p => low n1 p.1 && low n1 p.2) = true := l
    rcases h with ⟨xs, h1, h2⟩ | ⟨xs, h1, h2, h3⟩
    · exact .inl ⟨xs, h1, paired_all h2 l fun a b e z => by
        rw [Bool.and_eq_true] at e
        exact ⟨z.1.down hn _ e.1, z.2.down hn _ e.2⟩⟩
    · exact .inr ⟨xs, h1, paired_all h2 l fun a b e z => by
        rw [Bool.and_eq_true] at e
        exact ⟨z.1, z.2.1, z.2.2.1.down hn _ e.1, z.2.2.2.down hn _ e.2⟩, h3⟩
  | ins _ _ => exact h.elim
theorem fin_post {keep : Bool} {d' : D} {s' : S} {v : V} {Q : VK} (r : Rel K φ s H) (h : fin keep s d s1 = some (d', s')) (q : PostE K φ s.length H d' s' Q) (x : Ext φ s.length H φ1 s1.length H1) (r1 : Rel K φ1 s1 H1) (hv : RV K φ1 s1.length H1 v d) : Q v H1 := by
  unfold fin at h
  cases keep with
  | true =>
    rw [if_pos rfl] at h
    cases h
    exact q v H1 φ1 x r1 hv
  | false =>
    rw [if_neg Bool.false_ne_true] at h
    by_cases hc : low s.length (shut s.length s1 d) = true ∧ oldOk s s1
    · rw [if_pos hc] at h
      cases h
      obtain ⟨hl, ho⟩ := hc
      have hle := x.le
      have ht : (s1.take s.length).length = s.length := by rw [List.length_take]; omega
      have x2 : Ext φ s.length H φ1 (s1.take s.length).length H1 := by
        rw [ht]
        exact ⟨Nat.le_refl _, x.old, fun i h1 h2 => absurd h1 (by omega), x.keep, x.tb, x.fk, x.ff⟩
      refine q v H1 φ1 x2 ⟨fun i j hi hj e => r1.inj i j (by omega) (by omega) e, fun i c e => ?_, fun a h => ⟨(r1.fo a h).1, fun i hi => (r1.fo a h).2 i (by omega)⟩, r1.tab⟩ ?_
      · rw [ht]
        have hi : i < s.length := by
          have := (List.getElem?_eq_some_iff.mp e).1
          omega
        rw [List.getElem?_take_of_lt hi] at e
        have z := r1.cell i c e
        have lowc : cellLow s.length c = true := by
          rcases ho i hi with h1 | ⟨c', h1, h2⟩
          · rw [e] at h1
            exact (r.cell i c h1.symm).lowD
          · rw [e] at h1
            cases h1
            exact h2
        exact z.down hle lowc
      · rw [ht]
        cases d with
        | ref i =>
          unfold shut at hl ⊢
          by_cases hi : s.length ≤ i
          · simp only [if_pos hi] at hl ⊢
            cases hv with
            | ref _ hi1 =>
              cases e : s1[i]? with
              | none =>
                rw [List.getElem?_eq_none_iff] at e
                omega
              | some c =>
                have z := r1.cell i c e
                cases c with
                | lst es =>
                  rw [e] at hl
                  obtain ⟨vs, z1, z2⟩ := z
                  exact .lst z1 (fun j hj e2 => by have := r1.inj j i (by omega) hi1 e2; omega) (fun z => (r1.fo _ z).2 i hi1 rfl) (z2.down hle _ hl)
                | dct _ =>
                  rw [e] at hl
                  have hl : i < s.length := of_decide_eq_true hl
                  omega
                | ins _ _ => exact z.elim
          · simp only [if_neg hi] at hl ⊢
            exact hv.down hle _ hl
        | _ => exact hv.down hle _ hl
    · rw [if_neg hc] at h
      cases h
end
theorem EnvR.start {K : Kq} {φ : Ph} {n : Nat} {H : Hp} {vs : List V} {ds : List D} (r : RVs K φ n H vs ds) (N : List Str) (nl : Nat) (hN : N.length = nl) : EnvR K φ n H (L2.start N vs) (ds.map some ++ List.replicate (nl - ds.length) none) := by
  unfold L2.start
  refine ⟨by simp only [List.length_append, List.length_map, List.length_replicate]; rw [r.length, hN], fun i d h => ?_⟩
  by_cases hi : i < ds.length
  · rw [List.getElem?_append_left (by simpa using hi), List.getElem?_map] at h
    cases e : ds[i]? with
    | none => rw [e] at h; cases h
    | some d' =>
      rw [e] at h
      cases h
      obtain ⟨v, h1, h2⟩ := r.get e
      refine ⟨v, ?_, h2⟩
      rw [List.getElem?_append_left (by simpa [r.length] using hi), List.getElem?_map, h1]
      rfl
  · rw [List.getElem?_append_right (by simpa using hi), List.getElem?_replicate] at h
    split at h <;> cases h
section
variable {P : Program} {w : World} {K : Kq} {mg : Str → Option Value} {base : Heap} {gi : Gi} {G : List D} {Ps : List Fn} {cf : List CF}
theorem runF_inv {f : Nat} {fn : Fn} {ds : List D} {s : S} {d : D} {s' : S} (hf : Ps[f]? = some fn) (h : runF G Ps cf f ds s = some (d, s')) :
    ds.length = fn.ps ∧ ∃ fl env' d1 s1, exs G cf fn.body (ds.map some ++ List.replicate (fn.nl - ds.length) none) s = some (fl, env', s1) ∧ (fl = .rt d1 ∨ (fl = .nx ∧ d1 = .non)) ∧ fin fn.keep s d1 s1 = some (d, s') := by
  unfold runF at h
  rw [hf] at h
  dsimp only at h
  by_cases hl : ds.length = fn.ps
  · rw [if_pos hl] at h
    refine ⟨hl, ?_⟩
    split at h
    · rename_i d1 e1 s1 e
      exact ⟨_, _, d1, s1, e, .inl rfl, h⟩
    · rename_i e1 s1 e
      exact ⟨_, _, .non, s1, e, .inr ⟨rfl, rfl⟩, h⟩
    · cases h
  · rw [if_neg hl] at h
    cases h
theorem fun_ok2 {K : PySem.W.Frag} {x qual : Str} {st : Stmt} {f : Addr} {fd : FuncData} {N ps : List Str} {k : Nat} {sp : Sp} (F : Fun K x qual st f fd) (S : FnScope N ps (defScope st)) (len : ∀ vs H Q E, sp vs H Q E → vs.length = ps.length)
    (hb : ∀ (A : Around) (outer : List PySem.Env) (s : Shared) (H : Hp) (vs : List V) (Q : VK) (E : XK), Room k (A.deeper (envOfC qual (defScope st) s.heap.objs.size f fd.code)) → sp vs H Q E →
      ∃ t, PSs (cxOf CX0 P w K mg base N qual (defScope st) f fd.code A outer s H E).nox (defBody st) t ∧ t { nx := fun _ H' => Q .non H', rt := Q } (start N vs) H) : FnOk P w K mg base CX0 (k + 1) f fd ps sp := by
  obtain ⟨oc, od, kV, doc, pm, an, cdv, ct, osl, rfl, lk, hcd⟩ := F.ex
  refine fn_of lk hcd S len fun A outer s H vs Q E hr hsp => ?_
  obtain ⟨t, h, q⟩ := hb A outer s H vs Q E hr hsp
  exact ⟨t, h.nox, q⟩
/-- THE RULE for a def of the text -/
theorem fn_ok {K0 : PySem.W.Frag} {T : List Addr} {f : Nat} {fn : Fn} {fe : FnE} {x qual : Str} {st : Stmt} {fa : Addr} {fd : FuncData} {N : List Str} {g : Bool} (hf : Ps[f]? = some fn) (F : Fun K0 x qual st fa fd) (S : FnScope N fe.ps (defScope st)) (hps : fe.ps.length = fn.ps) (hN : N.length = fn.nl)
    (chk : chkSs gi ⟨N, defScope st, fun _ => true, g⟩ fn.body (defBody st) = true) (hg : g = true → ∃ c P, GxR.TabB base mg c P ∧ fd.code = .ref c ∧ P ∈ T) (cfok : CFOk P w ⟨K0, T, w⟩ mg base gi.fns cf) (blt : ∀ x ∈ bltNames, mg x = none)
    (con : ∀ (i : Nat) (x : Str) (d : D), gi.cons[i]? = some x → G[i]? = some d → ∃ v u, mg x = some u ∧ RelV v u ∧ ∀ φ n H, RV ⟨K0, T, w⟩ φ n H v d) :
    FnOk P w K0 mg base CX0 (cf.length + 1) fa fd fe.ps (spF ⟨K0, T, w⟩ (runF G Ps cf f) fe.ps.length) := by
  refine fun_ok2 F S (fun vs H Q E h => h.1) (fun A outer s H vs Q E hr h => ?_)
  obtain ⟨hl, φ, st0, ds, d, s', r, hv, hrun, hq⟩ := h
  obtain ⟨hlen, fl, env', d1, s1, hex, hfl, hfin⟩ := runF_inv hf hrun
  have c : CxOk T (cxOf CX0 P w K0 mg base N qual (defScope st) fa fd.code A outer s H E).nox ⟨N, defScope st, fun _ => true, g⟩ gi G cf :=
    ⟨rfl, S.nd, rfl, fun _ _ => rfl, rfl, rfl, hr, cfok, hg, blt, fun i x d h1 h2 => con i x d h1 h2⟩
  refine ⟨_, ss_ok fn.body c chk, φ, _, st0, fl, env', s1, r, EnvR.start hv N fn.nl hN, hex, fun σ' H' φ' x' r' e' => ?_⟩
  rcases hfl with rfl | ⟨rfl, rfl⟩
  · exact fun v hv' => fin_post r hfin hq x' r' hv'
  · exact fin_post r hfin hq x' r' .non
/-- what is known of a def of the text; cs: the code objects that make generators, with their tables -/
structure DefOk (K : PySem.W.Frag) (cs : List (Addr × Addr)) (mg : Str → Option Value) (gi : Gi) (Ps : List Fn) (i : Nat) (fe : FnE) : Prop where
  ex : ∃ (fn : Fn) (x qual : Str) (st : Stmt) (fa : Addr) (fd : FuncData) (N : List Str) (g : Bool), Ps[i]? = some fn ∧ Fun K x qual st fa fd ∧ FnScope N fe.ps (defScope st) ∧ fe.ps.length = fn.ps ∧ N.length = fn.nl ∧
    chkSs gi ⟨N, defScope st, fun _ => true, g⟩ fn.body (defBody st) = true ∧ (g = true → ∃ c P, (c, P) ∈ cs ∧ fd.code = .ref c) ∧ mg fe.x = some (.ref fa) ∧ Binds K fd fe.ps [] ∧ ∀ e ∈ fe.kws, KBinds K fd fe.ps e.nms (gK e) (gK e)
abbrev kq (K : PySem.W.Frag) (cs : List (Addr × Addr)) (w : World) : Kq := ⟨K, cs.map (·.2), w⟩
theorem def_ok {K : PySem.W.Frag} {cs : List (Addr × Addr)} (tb : ∀ p ∈ cs, GxR.TabB base mg p.1 p.2) (blt : ∀ x ∈ bltNames, mg x = none)
    (con : ∀ (i : Nat) (x : Str) (d : D), gi.cons[i]? = some x → G[i]? = some d → ∃ v u, mg x = some u ∧ RelV v u ∧ ∀ φ n H, RV (kq K cs w) φ n H v d) {i : Nat} {fe : FnE} (h : DefOk K cs mg gi Ps i fe) (cfok : CFOk P w (kq K cs w) mg base gi.fns cf) :
    ∃ fa fd, FnOk P w K mg base CX0 (cf.length + 1) fa fd fe.ps (spF (kq K cs w) (runF G Ps cf i) fe.ps.length) ∧ mg fe.x = some (.ref fa) ∧ PySem.W.keepIn K (.ref fa) = true ∧ Binds K fd fe.ps [] ∧ ∀ e ∈ fe.kws, KBinds K fd fe.ps e.nms (gK e) (gK e) := by
  obtain ⟨fn, x, qual, st, fa, fd, N, g, h1, h2, h3, h4, h5, h6, hg, h7, h8, h9⟩ := h.ex
  refine ⟨fa, fd, fn_ok (K0 := K) (T := cs.map (·.2)) h1 h2 h3 h4 h5 h6 (fun z => ?_) cfok blt con, h7, h2.kp, h8, h9⟩
  obtain ⟨c, P, m, e⟩ := hg z
  exact ⟨c, P, tb _ m, e, List.mem_map.mpr ⟨_, m, rfl⟩⟩
theorem calls_ok {K : PySem.W.Frag} {cs : List (Addr × Addr)} (tb : ∀ p ∈ cs, GxR.TabB base mg p.1 p.2) (all : ∀ i fe, gi.fns[i]? = some fe → DefOk K cs mg gi Ps i fe) (blt : ∀ x ∈ bltNames, mg x = none)
    (con : ∀ (i : Nat) (x : Str) (d : D), gi.cons[i]? = some x → G[i]? = some d → ∃ v u, mg x = some u ∧ RelV v u ∧ ∀ φ n H, RV (kq K cs w) φ n H v d) : ∀ n, CFOk P w (kq K cs w) mg base gi.fns (calls G Ps n)
  | 0 => trivial
  | n + 1 => by
    have ih := calls_ok tb all blt con n
    refine ⟨fun i fe hi => ?_, ih⟩
    refine ⟨def_ok tb blt con (all i fe hi) ih, fun ds s z hz => ?_⟩
    obtain ⟨fn, x, qual, st, fa, fd, N, g, h1, h2, h3, h4, _⟩ := (all i fe hi).ex
    rw [h4]
    exact (runF_inv h1 hz).1
theorem gK_vals : ∀ {vs : List V} {us : List Value} {perm : List Nat}, Vals vs us → ∀ {ws : List V}, perm.mapM (fun j => vs[j]?) = some ws → ∃ zs, perm.mapM (fun j => us[j]?) = some zs ∧ Vals ws zs
  | vs, us, [], r, ws, h => by cases h; exact ⟨[], rfl, .nil⟩
  | vs, us, j :: perm, r, ws, h => by
    rw [List.mapM_cons] at h
    cases h1 : vs[j]? with
    | none => rw [h1] at h; cases h
    | some d =>
      rw [h1] at h
      have h : (do let b ← perm.mapM (fun j => vs[j]?); some (d :: b)) = some ws := h
      cases h2 : perm.mapM (fun j => vs[j]?) with
      | none => rw [h2] at h; cases h
      | some us' =>
        rw [h2] at h
        cases h
        obtain ⟨u, e1, e2⟩ := r.get h1
        obtain ⟨zs, e3, e4⟩ := gK_vals (perm := perm) r h2
        refine ⟨u :: zs, ?_, .cons e2 e4⟩
        rw [List.mapM_cons, e1]
        show (do let b ← perm.mapM (fun j => us[j]?); some (u :: b)) = _
        rw [e3]
        rfl
theorem gK_none : ∀ {vs : List V} {us : List Value} {perm : List Nat}, Vals vs us → perm.mapM (fun j => vs[j]?) = none → perm.mapM (fun j => us[j]?) = none
  | vs, us, [], r, h => by cases h
  | vs, us, j :: perm, r, h => by
    rw [List.mapM_cons] at h ⊢
    cases h1 : vs[j]? with
    | none => rw [r.none_of h1]; rfl
    | some d =>
      rw [h1] at h
      obtain ⟨u, e1, e2⟩ := r.get h1
      rw [e1]
      have h : (do let b ← perm.mapM (fun j => vs[j]?); some (d :: b)) = none := h
      show (do let b ← perm.mapM (fun j => us[j]?); some (u :: b)) = none
      cases h2 : perm.mapM (fun j => vs[j]?) with
      | none => rw [gK_none (perm := perm) r h2]; rfl
      | some us' => rw [h2] at h; cases h
theorem gK_rel {e : KwE} {vs zs : List V} {us ws : List Value} (r : Vals vs us) (rz : Vals zs ws) : Vals (gK e vs zs) (gK e us ws) := by
  unfold gK
  rw [← r.length, ← rz.length]
  by_cases h : vs.length = e.np ∧ zs.length = e.nms.length
  · rw [if_pos h, if_pos h]
    cases h2 : e.perm.mapM (fun j => (vs ++ zs)[j]?) with
    | none => rw [gK_none (r.append rz) h2]; exact .nil
    | some l =>
      obtain ⟨l', e1, e2⟩ := gK_vals (r.append rz) h2
      rw [e1]
      exact e2
  · rw [if_neg h, if_neg h]
    exact .nil
/-- a call with keywords binds -/
theorem kb_of {K : PySem.W.Frag} {fd : FuncData} {ps : List Str} {e : KwE} (hps : ps ≠ []) (h : ∀ us ws : List Value, us.length = e.np → ws.length = e.nms.length → bindArgs fd ⟨us, e.nms.zip ws⟩ = pure (ps.zip (gK e us ws))) : KBinds K fd ps e.nms (gK e) (gK e) where
  to := fun s us ws _ hl => by
    by_cases hh : us.length = e.np ∧ ws.length = e.nms.length
    · exact .of_eq (h us ws hh.1 hh.2)
    · unfold gK at hl
      rw [if_neg hh] at hl
      exact absurd (List.length_eq_zero_iff.mp hl.symm) hps
  rel := gK_rel
/-- the law's own promise: the script is a list that nobody writes -/
theorem law_sp {K : PySem.W.Frag} {w : World} {cs : List (Addr × Addr)} {c : CF} {i : Nat} {H : Hp} {a : Addr} {ns : List Int} (hT : ∀ p ∈ cs, H p.2 = some (.tbl #[])) (hS : SqL K H a (ns.map V.int)) (hc : ∀ r, (r = .rol (ns.map D.int) ∨ r = .lst (ns.map D.int)) → ∃ s', c i [r] [] = some (.bl true, s')) :
    spF (kq K cs w) (c i) 1 [.ref a] H (fun v _ => v = .bl true) fun _ _ _ => False := by
  have rel : Rel (kq K cs w) ⟨fun _ => 0, fun _ => False⟩ [] H := ⟨fun i j hi => absurd hi (Nat.not_lt_zero _), fun i c e => by simp at e, fun a h => h.elim, fun P hP => by
    obtain ⟨p, hp, e⟩ := List.mem_map.mp hP
    rw [← e]
    exact ⟨#[], hT p hp, True.intro⟩⟩
  have fin : ∀ r, (r = .rol (ns.map D.int) ∨ r = .lst (ns.map D.int)) → RV (kq K cs w) ⟨fun _ => 0, fun _ => False⟩ 0 H (.ref a) r → spF (kq K cs w) (c i) 1 [.ref a] H (fun v _ => v = .bl true) fun _ _ _ => False := fun r hr hv => by
    obtain ⟨s', hc⟩ := hc r hr
    exact ⟨rfl, ⟨fun _ => 0, fun _ => False⟩, [], [r], .bl true, s', rel, .cons hv .nil, hc, fun v H' φ' _ _ hv => by cases hv; rfl⟩
  rcases hS with hS | hS
  · rcases hS with hS | ⟨o, hS⟩
    · exact fin _ (.inr rfl) (.lst hS (fun i hi => absurd hi (Nat.not_lt_zero _)) (fun h => h) (RVs.ints ns))
    · exact fin _ (.inl rfl) (.rol (.inl ⟨o, hS⟩) (RVs.ints ns))
  · exact fin _ (.inl rfl) (.rol (.inr (.inr hS)) (RVs.ints ns))
theorem tab_cd {K : PySem.W.Frag} {x : Str} {f c P : Addr} {oc : Value} {od : Option Addr} {fd : FuncData} {sl : Array (Option Value)} (a : PySem.W.nsIn K mainGlobals x = some (some (.ref f))) (l : K.lookup f = some ⟨oc, od, .func fd, sl⟩) (t : PySem.W.tabIn K x = some (c, P)) : fd.code = .ref c := by
  unfold PySem.W.tabIn at t
  rw [a] at t
  dsimp only at t
  rw [l] at t
  dsimp only at t
  split at t
  · rename_i c2 hc
    split at t
    · split at t
      · cases t; exact hc
      · cases t
    · cases t
  · cases t
end
theorem tabIn_of {K : PySem.W.Frag} {x : Str} {f c P : Addr} {oc e : Value} {od dd : Option Addr} {fd : FuncData} {sl sl2 : Array (Option Value)} {vs : Array Value} (a : PySem.W.nsIn K mainGlobals x = some (some (.ref f))) (l : K.lookup f = some ⟨oc, od, .func fd, sl⟩) (hc : fd.code = .ref c)
    (l2 : K.lookup c = some ⟨e, dd, .fields vs, sl2⟩) (hP : vs[11]? = some (.ref P)) : PySem.W.tabIn K x = some (c, P) := by
  unfold PySem.W.tabIn
  rw [a]
  dsimp only
  rw [l]
  dsimp only
  rw [hc]
  dsimp only
  rw [l2]
  dsimp only
  rw [hP]
/-- THE END: the law's row, by its def's promise -/
theorem walkT {l : PySem.W.OpenLaw} {n k : Nat} {q : Program} {loose : List Str} {XP : (Str → Option Value) → Heap → Prop} {YP : World → Heap → Prop} {d : DefRec} {K : Params → PySem.W.Frag} {c : CF} {i : Nat} {gs : List Str}
    (hn : l.most = some n) (hn2 : n ≤ sizeLine) (hdf : d.params.defaults = []) (hr : Room k callerA) (hY : ∀ (w : World) (h : Heap), YP w h → (K w.params).In h)
    (hrec : ∀ x ∈ gs, ((recsOf q).find? fun e => e.name == x).isSome = true)
    (F : ∀ (w : World) (mg : Str → Option Value) (fa : Addr) (h : Heap), (K w.params).In h → h.Ns mainGlobals mg → mg d.name = some (.ref fa) →
      ∃ (fd : FuncData) (cs : List (Addr × Addr)), (∀ p ∈ cs, (∃ x ∈ gs, PySem.W.tabIn (K w.params) x = some p) ∧ (K w.params).lookup p.2 = none) ∧ (∀ (s : Shared) (u : Value), BindsTo s fd ⟨[u], []⟩ [("script", u)]) ∧
        ∀ base : Heap, (K w.params).In base → base.Ns mainGlobals mg → (∀ p ∈ cs, GxR.TabB base mg p.1 p.2) → FnOk l.prog w (K w.params) mg base CX0 k fa fd ["script"] (spF (kq (K w.params) cs w) (c i) 1))
    (pure_law : ∀ ns : List Int, ns.length ≤ n → ∀ r, (r = .rol (ns.map D.int) ∨ r = .lst (ns.map D.int)) → ∃ s', c i [r] [] = some (.bl true, s')) :
    PySem.W.WalkO q loose XP YP l.row.toRowW d [] (fun f vs => PySem.call f vs) := by
  refine Att.attach_callB hn hdf fun w s₀ s₁ mg mb fa o pm cd doc a vs ns G Y ho hd hcd hmg hobj hints hlen hbits hg => ?_
  have KX := hY w _ Y
  obtain ⟨fd, cs, hcs, hb, hF⟩ := F w mg fa _ KX G.T.g hmg
  have tabs : ∀ p ∈ cs, PySem.W.CodeHd s₁.heap p.1 p.2 ∧ s₁.heap.get? p.2 = some { cls := .none, data := .fields #[] } := fun p hp => by
    obtain ⟨⟨x, hx, ht⟩, _⟩ := hcs p hp
    have h1 := hrec x hx
    cases hf : (recsOf q).find? fun e => e.name == x with
    | none => rw [hf] at h1; cases h1
    | some d' => exact PySem.W.tab_of G.T KX hf ht
  exact LamX.law_callTs KX G.T.g G.T.b G.T.builtins G.T.nolimit hg (fun p hp => (tabs p hp).2) (fun p hp => (hcs p hp).2) (fun p hp => (tabs p hp).1) G.T.bmain hobj hints (Nat.le_trans hlen hn2) hr
    (fun base h1 h2 h3 => hF base h1 h2 fun p hp => ⟨(h3 p hp).code, (h3 p hp).bm, (h3 p hp).gP⟩) hb (fun H hH hS => law_sp hH hS (pure_law ns hlen)) fun H e s' z => z
end Kp

namespace Kp
open PySem PySem.Spec PyProof.Rows L2
/-! the words of the text: printed by gen.py -/
def n_has_letters : List Str := ["part", "lot", "letter"]
def w_has_letters : Fn := ⟨2, 3, (
  .cons (.ret (.gx .all [2] (.nm 2) (.seq (.var 0)) .nil (.cmp .isin (.var 2) (.var 1)))) .nil), false⟩
def n_is_closed : List Str := ["rules", "lot", "part", "letter"]
def w_is_closed : Fn := ⟨2, 4, (
  .cons (.ret (.gx .all [2, 3] (.tp 2 [(.nm 2), (.nm 3)]) (.seq (.var 0)) (.cons (.call 0 (.cons (.var 2) (.cons (.var 1) .nil))) .nil) (.cmp .isin (.var 3) (.var 1)))) .nil), false⟩
def n_closed_lots : List Str := ["n", "rules", "lots", "letter", "lot"]
def w_closed_lots : Fn := ⟨2, 5, (
  .cons (.asg (.nm 2) (.lst false (.cons (.tup .nil) .nil))) (
  .cons (.fr (.nm 3) (.rng (.var 0)) (
    .cons (.asg (.nm 2) (.bin (.add false) (.var 2) (.lc false [4] (.nm 4) (.seq (.var 2)) .nil (.bin (.add false) (.var 4) (.tup (.cons (.var 3) .nil)))))) .nil)) (
  .cons (.ret (.bi .tuple false (.cons (.bi .sorted false (.cons (.lc false [4] (.nm 4) (.seq (.var 2)) (.cons (.call 1 (.cons (.var 1) (.cons (.var 4) .nil))) .nil) (.var 4)) .nil)) .nil))) .nil))), false⟩
def n__law_flow : List Str := ["script", "cell"]
def w__law_flow : Fn := ⟨1, 2, (
  .cons (.ret (.lst true (.cons (.con (.int 0)) (.cons (.con (.int 0)) (.cons (.con (.int 0)) (.cons (.con (.int 0)) (.cons (.bin (.add false) (.lc false [1] (.nm 1) (.seq (.slc false (.var 0) .none (.some (.con (.int 63))))) .nil (.bi .abs false (.cons (.bi .int false (.cons (.var 1) .nil)) .nil))) (.lst false (.cons (.con (.int 7)) .nil))) .nil))))))) .nil), true⟩
def n__law_draw : List Str := ["flow", "many", "cells", "digit", "cell", "first", "second"]
def w__law_draw : Fn := ⟨2, 7, (
  .cons (.sset (.var 0) (.con (.int 3)) (.bin (.add false) (.idx (.var 0) (.con (.int 3))) (.con (.int 1)))) (
  .cons (.asg (.nm 2) (.idx (.var 0) (.con (.int 4)))) (
  .cons (.ifs (.and (.cons (.cmp .eq (.idx (.var 0) (.con (.int 1))) (.con (.int 0))) (.cons (.cmp .eq (.bin .mod (.bi .int false (.cons (.idx (.var 2) (.con (.int 0))) .nil)) (.con (.int 2))) (.con (.int 0))) (.cons (.cmp .lt (.idx (.var 0) (.con (.int 2))) (.bi .len false (.cons (.var 2) .nil))) (.cons (.cmp .ge (.idx (.var 2) (.idx (.var 0) (.con (.int 2)))) (.bin .pow (.con (.int 10)) (.con (.int 18)))) .nil))))) (
    .cons (.sset (.var 0) (.con (.int 0)) (.bin .fdiv (.idx (.var 2) (.idx (.var 0) (.con (.int 2)))) (.con (.int 2)))) (
    .cons (.sset (.var 0) (.con (.int 1)) (.con (.int 60))) (
    .cons (.sset (.var 0) (.con (.int 2)) (.bin (.add false) (.idx (.var 0) (.con (.int 2))) (.con (.int 1)))) .nil))) .nil) (
  .cons (.ifs (.cmp .gt (.idx (.var 0) (.con (.int 1))) (.con (.int 0))) (
    .cons (.asg (.nm 3) (.bin .mod (.bi .int false (.cons (.idx (.var 0) (.con (.int 0))) .nil)) (.var 1))) (
    .cons (.sset (.var 0) (.con (.int 0)) (.bin .fdiv (.idx (.var 0) (.con (.int 0))) (.var 1))) (
    .cons (.sset (.var 0) (.con (.int 1)) (.bin (.mul false) (.bin .sub (.idx (.var 0) (.con (.int 1))) (.con (.int 1))) (.bi .int false (.cons (.cmp .gt (.idx (.var 0) (.con (.int 0))) (.con (.int 0))) .nil)))) (
    .cons (.ret (.var 3)) .nil)))) .nil) (
  .cons (.asg (.nm 4) (.idx (.var 2) (.bin .mod (.bi .int false (.cons (.idx (.var 0) (.con (.int 3))) .nil)) (.bi .len false (.cons (.var 2) .nil))))) (
  .cons (.sset (.var 0) (.con (.int 2)) (.bin (.add false) (.idx (.var 0) (.con (.int 2))) (.bi .int false (.cons (.cmp .lt (.idx (.var 2) (.bi .min2 false (.cons (.idx (.var 0) (.con (.int 2))) (.cons (.bin .sub (.bi .len false (.cons (.var 2) .nil)) (.con (.int 1))) .nil)))) (.bin .pow (.con (.int 10)) (.con (.int 18)))) .nil)))) (
  .cons (.asg (.nm 5) (.bin .mod (.bi .int false (.cons (.bin (.add false) (.bin (.add false) (.bin (.mul false) (.var 4) (.con (.int 48271))) (.bin (.mul false) (.idx (.var 0) (.con (.int 3))) (.con (.int 69621)))) (.con (.int 5))) .nil)) (.con (.int 2147483647)))) (
  .cons (.asg (.nm 6) (.bin .mod (.bi .int false (.cons (.bin (.add false) (.bin (.mul false) (.var 5) (.var 5)) (.bin (.mul false) (.idx (.var 0) (.con (.int 3))) (.con (.int 40692)))) .nil)) (.con (.int 2147483399)))) (
  .cons (.ret (.bin .mod (.bin .fdiv (.bin .mod (.bi .int false (.cons (.bin (.add false) (.bin (.mul false) (.var 6) (.var 6)) (.var 5)) .nil)) (.con (.int 2147483647))) (.con (.int 8))) (.var 1))) .nil))))))))), false⟩
def n__law_pick : List Str := ["flow", "some"]
def w__law_pick : Fn := ⟨2, 2, (
  .cons (.ret (.idx (.var 1) (.call 4 (.cons (.var 0) (.cons (.bi .len false (.cons (.var 1) .nil)) .nil))))) .nil), false⟩
def n__law_shuffled : List Str := ["flow", "some", "left", "k"]
def w__law_shuffled : Fn := ⟨2, 4, (
  .cons (.asg (.nm 2) (.bi .list true (.cons (.var 1) .nil))) (
  .cons (.ret (.lc false [3] (.nm 3) (.rng (.bi .len false (.cons (.var 1) .nil))) .nil (.mt .popAt (.var 2) (.cons (.call 4 (.cons (.var 0) (.cons (.bi .len false (.cons (.var 2) .nil)) .nil))) .nil)))) .nil)), false⟩
def n__law_some : List Str := ["flow", "some", "low", "high"]
def w__law_some : Fn := ⟨4, 4, (
  .cons (.ret (.slc false (.call 6 (.cons (.var 0) (.cons (.var 1) .nil))) .none (.some (.bin (.add false) (.var 2) (.call 4 (.cons (.var 0) (.cons (.bin (.add false) (.bin .sub (.var 3) (.var 2)) (.con (.int 1))) .nil))))))) .nil), false⟩
def n__law_same : List Str := ["told", "due", "k"]
def w__law_same : Fn := ⟨2, 3, (
  .cons (.ifs (.isi (.var 1) .ttuple) (
    .cons (.ifs (.or (.cons (.not (.isi (.var 0) .ttuple)) (.cons (.cmp .ne (.bi .len false (.cons (.var 0) .nil)) (.bi .len false (.cons (.var 1) .nil))) .nil))) (
      .cons (.ret (.con (.bl false))) .nil) .nil) (
    .cons (.ret (.cmp .notin (.con (.bl false)) (.lc false [2] (.nm 2) (.rng (.bi .len false (.cons (.var 1) .nil))) .nil (.call 8 (.cons (.idx (.var 0) (.var 2)) (.cons (.idx (.var 1) (.var 2)) .nil)))))) .nil)) .nil) (
  .cons (.ifs (.isn (.var 1)) (
    .cons (.ret (.isn (.var 0))) .nil) .nil) (
  .cons (.ifs (.isi (.var 1) .tbool) (
    .cons (.ret (.and (.cons (.isi (.var 0) .tbool) (.cons (.cmp .eq (.var 0) (.var 1)) .nil)))) .nil) .nil) (
  .cons (.ifs (.isi (.var 1) .tstr) (
    .cons (.ret (.and (.cons (.isi (.var 0) .tstr) (.cons (.cmp .eq (.var 0) (.var 1)) .nil)))) .nil) .nil) (
  .cons (.ret (.and (.cons (.isi (.var 0) .tint) (.cons (.not (.isi (.var 0) .tbool)) (.cons (.cmp .eq (.var 0) (.var 1)) .nil))))) .nil))))), false⟩
def n__law_lots : List Str := ["n", "rows", "letter", "row"]
def w__law_lots : Fn := ⟨1, 4, (
  .cons (.asg (.nm 1) (.lst false (.cons (.tup .nil) .nil))) (
  .cons (.fr (.nm 2) (.rng (.var 0)) (
    .cons (.asg (.nm 1) (.bin (.add false) (.var 1) (.lc false [3] (.nm 3) (.seq (.var 1)) .nil (.bin (.add false) (.var 3) (.tup (.cons (.var 2) .nil)))))) .nil)) (
  .cons (.ret (.var 1)) .nil))), false⟩
def n__law_closed : List Str := ["n", "rules", "found", "lot", "broken", "part", "letter", "one"]
def w__law_closed : Fn := ⟨2, 8, (
  .cons (.asg (.nm 2) (.lst true .nil)) (
  .cons (.fr (.nm 3) (.seq (.call 9 (.cons (.var 0) .nil))) (
    .cons (.asgLc 4 false [5, 6] (.tp 2 [(.nm 5), (.nm 6)]) (.seq (.var 1)) (.cons (.and (.cons (.cmp .notin (.var 6) (.var 3)) (.cons (.cmp .eq (.bi .len false (.cons (.lc false [7] (.nm 7) (.seq (.var 5)) (.cons (.cmp .notin (.var 7) (.var 3)) .nil) (.var 7)) .nil)) (.con (.int 0))) .nil))) .nil) (.var 6)) (
    .cons (.ifs (.cmp .eq (.var 4) (.lst false .nil)) (
      .cons (.exp (.mt .append (.var 2) (.cons (.var 3) .nil))) .nil) .nil) .nil))) (
  .cons (.ret (.bi .tuple false (.cons (.bi .sorted false (.cons (.var 2) .nil)) .nil))) .nil))), false⟩
def n__law_rules : List Str := ["flow", "n", "many", "found", "turn", "letter", "others", "one"]
def w__law_rules : Fn := ⟨3, 8, (
  .cons (.asg (.nm 3) .dnew) (
  .cons (.fr (.nm 4) (.rng (.var 2)) (
    .cons (.asg (.nm 5) (.call 4 (.cons (.var 0) (.cons (.var 1) .nil)))) (
    .cons (.asgLc 6 false [7] (.nm 7) (.rng (.var 1)) (.cons (.cmp .ne (.var 7) (.var 5)) .nil) (.var 7)) (
    .cons (.sset (.var 3) (.tup (.cons (.bi .tuple false (.cons (.bi .sorted false (.cons (.call 7 (.cons (.var 0) (.cons (.var 6) (.cons (.con (.int 0)) (.cons (.bi .len false (.cons (.var 6) .nil)) .nil))))) .nil)) .nil)) (.cons (.var 5) .nil))) (.con (.bl true))) .nil)))) (
  .cons (.ret (.bi .tuple false (.cons (.bi .sorted false (.cons (.bi .list false (.cons (.var 3) .nil)) .nil)) .nil))) .nil))), false⟩
def n_law : List Str := ["script", "flow", "turn", "n", "rules", "due", "told", "names", "other", "led", "one", "two", "at", "part", "letter", "wider", "kept", "lot"]
def w_law : Fn := ⟨1, 18, (
  .cons (.asg (.nm 1) (.call 3 (.cons (.var 0) .nil))) (
  .cons (.fr (.nm 2) (.rng (.con (.int 6))) (
    .cons (.asg (.nm 3) (.bin (.add false) (.con (.int 1)) (.call 4 (.cons (.var 1) (.cons (.con (.int 4)) .nil))))) (
    .cons (.asg (.nm 4) (.call 11 (.cons (.var 1) (.cons (.var 3) (.cons (.call 5 (.cons (.var 1) (.cons (.lst false (.cons (.con (.int 0)) (.cons (.con (.int 1)) (.cons (.con (.int 2)) (.cons (.con (.int 4)) (.cons (.con (.int 8)) (.cons (.con (.int 8)) .nil))))))) .nil))) .nil))))) (
    .cons (.asg (.nm 5) (.call 10 (.cons (.var 3) (.cons (.var 4) .nil)))) (
    .cons (.asg (.nm 6) (.ite (.cmp .eq (.call 4 (.cons (.var 1) (.cons (.con (.int 2)) .nil))) (.con (.int 0))) (.call 2 (.cons (.var 3) (.cons (.var 4) .nil))) (.callk 2 .nil (.cons (.var 4) (.cons (.var 3) .nil)) ["rules", "n"] [1, 0]))) (
    .cons (.ifs (.or (.cons (.not (.call 8 (.cons (.var 6) (.cons (.var 5) .nil)))) (.cons (.cmp .notin (.bi .tuple false (.cons (.rgl false false (.var 3)) .nil)) (.var 6)) .nil))) (
      .cons (.ret (.con (.bl false))) .nil) .nil) (
    .cons (.asg (.nm 7) (.call 6 (.cons (.var 1) (.cons (.rgl false false (.var 3)) .nil)))) (
    .cons (.asg (.nm 8) (.bi .tuple false (.cons (.bi .sorted false (.cons (.lc false [13, 14] (.tp 2 [(.nm 13), (.nm 14)]) (.seq (.var 4)) .nil (.tup (.cons (.bi .tuple false (.cons (.bi .sorted false (.cons (.lc false [10] (.nm 10) (.seq (.var 13)) .nil (.idx (.var 7) (.var 10))) .nil)) .nil)) (.cons (.idx (.var 7) (.var 14)) .nil)))) .nil)) .nil))) (
    .cons (.asg (.nm 9) (.bi .tuple false (.cons (.bi .sorted false (.cons (.lc false [17] (.nm 17) (.seq (.var 5)) .nil (.bi .tuple false (.cons (.bi .sorted false (.cons (.lc false [10] (.nm 10) (.seq (.var 17)) .nil (.idx (.var 7) (.var 10))) .nil)) .nil))) .nil)) .nil))) (
    .cons (.ifs (.not (.call 8 (.cons (.call 2 (.cons (.var 3) (.cons (.var 8) .nil))) (.cons (.var 9) .nil)))) (
      .cons (.ret (.con (.bl false))) .nil) .nil) (
    .cons (.asg (.tp 2 [(.nm 10), (.nm 11)]) (.tup (.cons (.call 5 (.cons (.var 1) (.cons (.bi .list false (.cons (.var 6) .nil)) .nil))) (.cons (.call 5 (.cons (.var 1) (.cons (.bi .list false (.cons (.var 6) .nil)) .nil))) .nil)))) (
    .cons (.ifs (.cmp .notin (.bi .tuple false (.cons (.lc false [14] (.nm 14) (.seq (.var 10)) (.cons (.cmp .isin (.var 14) (.var 11)) .nil) (.var 14)) .nil)) (.var 6)) (
      .cons (.ret (.con (.bl false))) .nil) .nil) (
    .cons (.ifs (.cmp .ne (.var 4) (.tup .nil)) (
      .cons (.asg (.nm 12) (.call 4 (.cons (.var 1) (.cons (.bi .len false (.cons (.var 4) .nil)) .nil)))) (
      .cons (.asg (.tp 2 [(.nm 13), (.nm 14)]) (.idx (.var 4) (.var 12))) (
      .cons (.asg (.nm 15) (.call 2 (.cons (.var 3) (.cons (.bin (.add false) (.slc false (.var 4) .none (.some (.var 12))) (.slc false (.var 4) (.some (.bin (.add false) (.var 12) (.con (.int 1)))) .none)) .nil)))) (
      .cons (.asgLc 16 false [17] (.nm 17) (.seq (.var 15)) (.cons (.or (.cons (.cmp .isin (.var 14) (.var 17)) (.cons (.cmp .gt (.bi .len false (.cons (.lc false [10] (.nm 10) (.seq (.var 13)) (.cons (.cmp .notin (.var 10) (.var 17)) .nil) (.var 10)) .nil)) (.con (.int 0))) .nil))) .nil) (.var 17)) (
      .cons (.ifs (.not (.call 8 (.cons (.bi .tuple false (.cons (.var 16) .nil)) (.cons (.var 5) .nil)))) (
        .cons (.ret (.con (.bl false))) .nil) .nil) .nil))))) .nil) .nil))))))))))))) (
  .cons (.ret (.con (.bl true))) .nil))), false⟩
def Ps : List Fn := [w_has_letters, w_is_closed, w_closed_lots, w__law_flow, w__law_draw, w__law_pick, w__law_shuffled, w__law_some, w__law_same, w__law_lots, w__law_closed, w__law_rules, w_law]
def fns : List FnE := [
  ⟨"has_letters", ["part", "lot"], []⟩,
  ⟨"is_closed", ["rules", "lot"], []⟩,
  ⟨"closed_lots", ["n", "rules"], [⟨0, ["rules", "n"], [1, 0]⟩]⟩,
  ⟨"_law_flow", ["script"], []⟩,
  ⟨"_law_draw", ["flow", "many"], []⟩,
  ⟨"_law_pick", ["flow", "some"], []⟩,
  ⟨"_law_shuffled", ["flow", "some"], []⟩,
  ⟨"_law_some", ["flow", "some", "low", "high"], []⟩,
  ⟨"_law_same", ["told", "due"], []⟩,
  ⟨"_law_lots", ["n"], []⟩,
  ⟨"_law_closed", ["n", "rules"], []⟩,
  ⟨"_law_rules", ["flow", "n", "many"], []⟩,
  ⟨"law", ["script"], []⟩]
def gi : Gi := ⟨fns, []⟩
def G : List D := []
def top (i : Nat) : Stmt := PySem.Challenge.pw_keptoffers_k62_closed_lots_at_eight_rule.main.body.getD i (.Pass ⟨0, 0, 0, 0⟩)
theorem c_has_letters : chkSs gi ⟨n_has_letters, defScope (top 1), fun _ => true, true⟩ w_has_letters.body (defBody (top 1)) = true := by decide +kernel
theorem s_has_letters : FnScope n_has_letters ["part", "lot"] (defScope (top 1)) := ⟨rfl, rfl, rfl, by decide +kernel, rfl, by decide +kernel, by decide +kernel⟩
theorem c_is_closed : chkSs gi ⟨n_is_closed, defScope (top 2), fun _ => true, true⟩ w_is_closed.body (defBody (top 2)) = true := by decide +kernel
theorem s_is_closed : FnScope n_is_closed ["rules", "lot"] (defScope (top 2)) := ⟨rfl, rfl, rfl, by decide +kernel, rfl, by decide +kernel, by decide +kernel⟩
theorem c_closed_lots : chkSs gi ⟨n_closed_lots, defScope (top 3), fun _ => true, false⟩ w_closed_lots.body (defBody (top 3)) = true := by decide +kernel
theorem s_closed_lots : FnScope n_closed_lots ["n", "rules"] (defScope (top 3)) := ⟨rfl, rfl, rfl, by decide +kernel, rfl, by decide +kernel, by decide +kernel⟩
theorem c__law_flow : chkSs gi ⟨n__law_flow, defScope (top 5), fun _ => true, false⟩ w__law_flow.body (defBody (top 5)) = true := by decide +kernel
theorem s__law_flow : FnScope n__law_flow ["script"] (defScope (top 5)) := ⟨rfl, rfl, rfl, by decide +kernel, rfl, by decide +kernel, by decide +kernel⟩
theorem c__law_draw : chkSs gi ⟨n__law_draw, defScope (top 6), fun _ => true, false⟩ w__law_draw.body (defBody (top 6)) = true := by decide +kernel
theorem s__law_draw : FnScope n__law_draw ["flow", "many"] (defScope (top 6)) := ⟨rfl, rfl, rfl, by decide +kernel, rfl, by decide +kernel, by decide +kernel⟩
theorem c__law_pick : chkSs gi ⟨n__law_pick, defScope (top 7), fun _ => true, false⟩ w__law_pick.body (defBody (top 7)) = true := by decide +kernel
theorem s__law_pick : FnScope n__law_pick ["flow", "some"] (defScope (top 7)) := ⟨rfl, rfl, rfl, by decide +kernel, rfl, by decide +kernel, by decide +kernel⟩
theorem c__law_shuffled : chkSs gi ⟨n__law_shuffled, defScope (top 8), fun _ => true, false⟩ w__law_shuffled.body (defBody (top 8)) = true := by decide +kernel
theorem s__law_shuffled : FnScope n__law_shuffled ["flow", "some"] (defScope (top 8)) := ⟨rfl, rfl, rfl, by decide +kernel, rfl, by decide +kernel, by decide +kernel⟩
theorem c__law_some : chkSs gi ⟨n__law_some, defScope (top 9), fun _ => true, false⟩ w__law_some.body (defBody (top 9)) = true := by decide +kernel
theorem s__law_some : FnScope n__law_some ["flow", "some", "low", "high"] (defScope (top 9)) := ⟨rfl, rfl, rfl, by decide +kernel, rfl, by decide +kernel, by decide +kernel⟩
theorem c__law_same : chkSs gi ⟨n__law_same, defScope (top 10), fun _ => true, false⟩ w__law_same.body (defBody (top 10)) = true := by decide +kernel
theorem s__law_same : FnScope n__law_same ["told", "due"] (defScope (top 10)) := ⟨rfl, rfl, rfl, by decide +kernel, rfl, by decide +kernel, by decide +kernel⟩
theorem c__law_lots : chkSs gi ⟨n__law_lots, defScope (top 11), fun _ => true, false⟩ w__law_lots.body (defBody (top 11)) = true := by decide +kernel
theorem s__law_lots : FnScope n__law_lots ["n"] (defScope (top 11)) := ⟨rfl, rfl, rfl, by decide +kernel, rfl, by decide +kernel, by decide +kernel⟩
theorem c__law_closed : chkSs gi ⟨n__law_closed, defScope (top 12), fun _ => true, false⟩ w__law_closed.body (defBody (top 12)) = true := by decide +kernel
theorem s__law_closed : FnScope n__law_closed ["n", "rules"] (defScope (top 12)) := ⟨rfl, rfl, rfl, by decide +kernel, rfl, by decide +kernel, by decide +kernel⟩
theorem c__law_rules : chkSs gi ⟨n__law_rules, defScope (top 13), fun _ => true, false⟩ w__law_rules.body (defBody (top 13)) = true := by decide +kernel
theorem s__law_rules : FnScope n__law_rules ["flow", "n", "many"] (defScope (top 13)) := ⟨rfl, rfl, rfl, by decide +kernel, rfl, by decide +kernel, by decide +kernel⟩
theorem c_law : chkSs gi ⟨n_law, defScope (top 14), fun _ => true, false⟩ w_law.body (defBody (top 14)) = true := by decide +kernel
theorem s_law : FnScope n_law ["script"] (defScope (top 14)) := ⟨rfl, rfl, rfl, by decide +kernel, rfl, by decide +kernel, by decide +kernel⟩
theorem d_has_letters {K : PySem.W.Frag} {cs : List (Addr × Addr)} {h : Heap} {mg : Str → Option Value} {f : Addr} {oc kV dc pm cd ct : Value} {od an : Option Addr} {sl : Array (Option Value)} (X : K.In h) (N : h.Ns mainGlobals mg) (a : PySem.W.nsIn K mainGlobals "has_letters" = some (some (.ref f)))
    (l : K.lookup f = some ⟨oc, od, .func (PySem.W.fnOf "has_letters" "has_letters" (defArgs (top 1)) (defBody (top 1)) (defScope (top 1)) .none kV dc pm an cd ct), sl⟩) (c : PySem.W.codeIn K cd "has_letters" = true) (k : PySem.W.keepIn K (.ref f) = true) {c0 P0 : Addr} (t : PySem.W.tabIn K "has_letters" = some (c0, P0)) (m : (c0, P0) ∈ cs) : ∀ fe, fns[0]? = some fe → DefOk K cs mg gi Ps 0 fe := fun fe e => by
  cases e
  refine ⟨⟨w_has_letters, "has_letters", "has_letters", top 1, f, _, n_has_letters, true, rfl, fun_mk l c k, s_has_letters, rfl, rfl, c_has_letters, fun _ => ⟨_, _, m, tab_cd a l t⟩, PySem.W.mg_of X N a, (fun_mk l c k).binds (fun _ _ _ _ _ _ us hl => match us, hl with | [_, _], _ => rfl), fun e he => ?_⟩⟩
  cases he
theorem d_is_closed {K : PySem.W.Frag} {cs : List (Addr × Addr)} {h : Heap} {mg : Str → Option Value} {f : Addr} {oc kV dc pm cd ct : Value} {od an : Option Addr} {sl : Array (Option Value)} (X : K.In h) (N : h.Ns mainGlobals mg) (a : PySem.W.nsIn K mainGlobals "is_closed" = some (some (.ref f)))
    (l : K.lookup f = some ⟨oc, od, .func (PySem.W.fnOf "is_closed" "is_closed" (defArgs (top 2)) (defBody (top 2)) (defScope (top 2)) .none kV dc pm an cd ct), sl⟩) (c : PySem.W.codeIn K cd "is_closed" = true) (k : PySem.W.keepIn K (.ref f) = true) {c0 P0 : Addr} (t : PySem.W.tabIn K "is_closed" = some (c0, P0)) (m : (c0, P0) ∈ cs) : ∀ fe, fns[1]? = some fe → DefOk K cs mg gi Ps 1 fe := fun fe e => by
  cases e
  refine ⟨⟨w_is_closed, "is_closed", "is_closed", top 2, f, _, n_is_closed, true, rfl, fun_mk l c k, s_is_closed, rfl, rfl, c_is_closed, fun _ => ⟨_, _, m, tab_cd a l t⟩, PySem.W.mg_of X N a, (fun_mk l c k).binds (fun _ _ _ _ _ _ us hl => match us, hl with | [_, _], _ => rfl), fun e he => ?_⟩⟩
  cases he
theorem d_closed_lots {K : PySem.W.Frag} {cs : List (Addr × Addr)} {h : Heap} {mg : Str → Option Value} {f : Addr} {oc kV dc pm cd ct : Value} {od an : Option Addr} {sl : Array (Option Value)} (X : K.In h) (N : h.Ns mainGlobals mg) (a : PySem.W.nsIn K mainGlobals "closed_lots" = some (some (.ref f)))
    (l : K.lookup f = some ⟨oc, od, .func (PySem.W.fnOf "closed_lots" "closed_lots" (defArgs (top 3)) (defBody (top 3)) (defScope (top 3)) .none kV dc pm an cd ct), sl⟩) (c : PySem.W.codeIn K cd "closed_lots" = true) (k : PySem.W.keepIn K (.ref f) = true) : ∀ fe, fns[2]? = some fe → DefOk K cs mg gi Ps 2 fe := fun fe e => by
  cases e
  refine ⟨⟨w_closed_lots, "closed_lots", "closed_lots", top 3, f, _, n_closed_lots, false, rfl, fun_mk l c k, s_closed_lots, rfl, rfl, c_closed_lots, (fun h => by cases h), PySem.W.mg_of X N a, (fun_mk l c k).binds (fun _ _ _ _ _ _ us hl => match us, hl with | [_, _], _ => rfl), fun e he => ?_⟩⟩
  simp only [List.mem_cons, List.not_mem_nil, or_false] at he
  subst he
  · exact kb_of (by decide) fun us ws h1 h2 => match us, ws, h1, h2 with | [], [_, _], _, _ => rfl
theorem d__law_flow {K : PySem.W.Frag} {cs : List (Addr × Addr)} {h : Heap} {mg : Str → Option Value} {f : Addr} {oc kV dc pm cd ct : Value} {od an : Option Addr} {sl : Array (Option Value)} (X : K.In h) (N : h.Ns mainGlobals mg) (a : PySem.W.nsIn K mainGlobals "_law_flow" = some (some (.ref f)))
    (l : K.lookup f = some ⟨oc, od, .func (PySem.W.fnOf "_law_flow" "_law_flow" (defArgs (top 5)) (defBody (top 5)) (defScope (top 5)) .none kV dc pm an cd ct), sl⟩) (c : PySem.W.codeIn K cd "_law_flow" = true) (k : PySem.W.keepIn K (.ref f) = true) : ∀ fe, fns[3]? = some fe → DefOk K cs mg gi Ps 3 fe := fun fe e => by
  cases e
  refine ⟨⟨w__law_flow, "_law_flow", "_law_flow", top 5, f, _, n__law_flow, false, rfl, fun_mk l c k, s__law_flow, rfl, rfl, c__law_flow, (fun h => by cases h), PySem.W.mg_of X N a, (fun_mk l c k).binds (fun _ _ _ _ _ _ us hl => match us, hl with | [_], _ => rfl), fun e he => ?_⟩⟩
  cases he
theorem d__law_draw {K : PySem.W.Frag} {cs : List (Addr × Addr)} {h : Heap} {mg : Str → Option Value} {f : Addr} {oc kV dc pm cd ct : Value} {od an : Option Addr} {sl : Array (Option Value)} (X : K.In h) (N : h.Ns mainGlobals mg) (a : PySem.W.nsIn K mainGlobals "_law_draw" = some (some (.ref f)))
    (l : K.lookup f = some ⟨oc, od, .func (PySem.W.fnOf "_law_draw" "_law_draw" (defArgs (top 6)) (defBody (top 6)) (defScope (top 6)) .none kV dc pm an cd ct), sl⟩) (c : PySem.W.codeIn K cd "_law_draw" = true) (k : PySem.W.keepIn K (.ref f) = true) : ∀ fe, fns[4]? = some fe → DefOk K cs mg gi Ps 4 fe := fun fe e => by
  cases e
  refine ⟨⟨w__law_draw, "_law_draw", "_law_draw", top 6, f, _, n__law_draw, false, rfl, fun_mk l c k, s__law_draw, rfl, rfl, c__law_draw, (fun h => by cases h), PySem.W.mg_of X N a, (fun_mk l c k).binds (fun _ _ _ _ _ _ us hl => match us, hl with | [_, _], _ => rfl), fun e he => ?_⟩⟩
  cases he
theorem d__law_pick {K : PySem.W.Frag} {cs : List (Addr × Addr)} {h : Heap} {mg : Str → Option Value} {f : Addr} {oc kV dc pm cd ct : Value} {od an : Option Addr} {sl : Array (Option Value)} (X : K.In h) (N : h.Ns mainGlobals mg) (a : PySem.W.nsIn K mainGlobals "_law_pick" = some (some (.ref f)))
    (l : K.lookup f = some ⟨oc, od, .func (PySem.W.fnOf "_law_pick" "_law_pick" (defArgs (top 7)) (defBody (top 7)) (defScope (top 7)) .none kV dc pm an cd ct), sl⟩) (c : PySem.W.codeIn K cd "_law_pick" = true) (k : PySem.W.keepIn K (.ref f) = true) : ∀ fe, fns[5]? = some fe → DefOk K cs mg gi Ps 5 fe := fun fe e => by
  cases e
  refine ⟨⟨w__law_pick, "_law_pick", "_law_pick", top 7, f, _, n__law_pick, false, rfl, fun_mk l c k, s__law_pick, rfl, rfl, c__law_pick, (fun h => by cases h), PySem.W.mg_of X N a, (fun_mk l c k).binds (fun _ _ _ _ _ _ us hl => match us, hl with | [_, _], _ => rfl), fun e he => ?_⟩⟩
  cases he
theorem d__law_shuffled {K : PySem.W.Frag} {cs : List (Addr × Addr)} {h : Heap} {mg : Str → Option Value} {f : Addr} {oc kV dc pm cd ct : Value} {od an : Option Addr} {sl : Array (Option Value)} (X : K.In h) (N : h.Ns mainGlobals mg) (a : PySem.W.nsIn K mainGlobals "_law_shuffled" = some (some (.ref f)))
    (l : K.lookup f = some ⟨oc, od, .func (PySem.W.fnOf "_law_shuffled" "_law_shuffled" (defArgs (top 8)) (defBody (top 8)) (defScope (top 8)) .none kV dc pm an cd ct), sl⟩) (c : PySem.W.codeIn K cd "_law_shuffled" = true) (k : PySem.W.keepIn K (.ref f) = true) : ∀ fe, fns[6]? = some fe → DefOk K cs mg gi Ps 6 fe := fun fe e => by
  cases e
  refine ⟨⟨w__law_shuffled, "_law_shuffled", "_law_shuffled", top 8, f, _, n__law_shuffled, false, rfl, fun_mk l c k, s__law_shuffled, rfl, rfl, c__law_shuffled, (fun h => by cases h), PySem.W.mg_of X N a, (fun_mk l c k).binds (fun _ _ _ _ _ _ us hl => match us, hl with | [_, _], _ => rfl), fun e he => ?_⟩⟩
  cases he
theorem d__law_some {K : PySem.W.Frag} {cs : List (Addr × Addr)} {h : Heap} {mg : Str → Option Value} {f : Addr} {oc kV dc pm cd ct : Value} {od an : Option Addr} {sl : Array (Option Value)} (X : K.In h) (N : h.Ns mainGlobals mg) (a : PySem.W.nsIn K mainGlobals "_law_some" = some (some (.ref f)))
    (l : K.lookup f = some ⟨oc, od, .func (PySem.W.fnOf "_law_some" "_law_some" (defArgs (top 9)) (defBody (top 9)) (defScope (top 9)) .none kV dc pm an cd ct), sl⟩) (c : PySem.W.codeIn K cd "_law_some" = true) (k : PySem.W.keepIn K (.ref f) = true) : ∀ fe, fns[7]? = some fe → DefOk K cs mg gi Ps 7 fe := fun fe e => by
  cases e
  refine ⟨⟨w__law_some, "_law_some", "_law_some", top 9, f, _, n__law_some, false, rfl, fun_mk l c k, s__law_some, rfl, rfl, c__law_some, (fun h => by cases h), PySem.W.mg_of X N a, (fun_mk l c k).binds (fun _ _ _ _ _ _ us hl => match us, hl with | [_, _, _, _], _ => rfl), fun e he => ?_⟩⟩
  cases he
theorem d__law_same {K : PySem.W.Frag} {cs : List (Addr × Addr)} {h : Heap} {mg : Str → Option Value} {f : Addr} {oc kV dc pm cd ct : Value} {od an : Option Addr} {sl : Array (Option Value)} (X : K.In h) (N : h.Ns mainGlobals mg) (a : PySem.W.nsIn K mainGlobals "_law_same" = some (some (.ref f)))
    (l : K.lookup f = some ⟨oc, od, .func (PySem.W.fnOf "_law_same" "_law_same" (defArgs (top 10)) (defBody (top 10)) (defScope (top 10)) .none kV dc pm an cd ct), sl⟩) (c : PySem.W.codeIn K cd "_law_same" = true) (k : PySem.W.keepIn K (.ref f) = true) : ∀ fe, fns[8]? = some fe → DefOk K cs mg gi Ps 8 fe := fun fe e => by
  cases e
  refine ⟨⟨w__law_same, "_law_same", "_law_same", top 10, f, _, n__law_same, false, rfl, fun_mk l c k, s__law_same, rfl, rfl, c__law_same, (fun h => by cases h), PySem.W.mg_of X N a, (fun_mk l c k).binds (fun _ _ _ _ _ _ us hl => match us, hl with | [_, _], _ => rfl), fun e he => ?_⟩⟩
  cases he
theorem d__law_lots {K : PySem.W.Frag} {cs : List (Addr × Addr)} {h : Heap} {mg : Str → Option Value} {f : Addr} {oc kV dc pm cd ct : Value} {od an : Option Addr} {sl : Array (Option Value)} (X : K.In h) (N : h.Ns mainGlobals mg) (a : PySem.W.nsIn K mainGlobals "_law_lots" = some (some (.ref f)))
    (l : K.lookup f = some ⟨oc, od, .func (PySem.W.fnOf "_law_lots" "_law_lots" (defArgs (top 11)) (defBody (top 11)) (defScope (top 11)) .none kV dc pm an cd ct), sl⟩) (c : PySem.W.codeIn K cd "_law_lots" = true) (k : PySem.W.keepIn K (.ref f) = true) : ∀ fe, fns[9]? = some fe → DefOk K cs mg gi Ps 9 fe := fun fe e => by
  cases e
  refine ⟨⟨w__law_lots, "_law_lots", "_law_lots", top 11, f, _, n__law_lots, false, rfl, fun_mk l c k, s__law_lots, rfl, rfl, c__law_lots, (fun h => by cases h), PySem.W.mg_of X N a, (fun_mk l c k).binds (fun _ _ _ _ _ _ us hl => match us, hl with | [_], _ => rfl), fun e he => ?_⟩⟩
  cases he
theorem d__law_closed {K : PySem.W.Frag} {cs : List (Addr × Addr)} {h : Heap} {mg : Str → Option Value} {f : Addr} {oc kV dc pm cd ct : Value} {od an : Option Addr} {sl : Array (Option Value)} (X : K.In h) (N : h.Ns mainGlobals mg) (a : PySem.W.nsIn K mainGlobals "_law_closed" = some (some (.ref f)))
    (l : K.lookup f = some ⟨oc, od, .func (PySem.W.fnOf "_law_closed" "_law_closed" (defArgs (top 12)) (defBody (top 12)) (defScope (top 12)) .none kV dc pm an cd ct), sl⟩) (c : PySem.W.codeIn K cd "_law_closed" = true) (k : PySem.W.keepIn K (.ref f) = true) : ∀ fe, fns[10]? = some fe → DefOk K cs mg gi Ps 10 fe := fun fe e => by
  cases e
  refine ⟨⟨w__law_closed, "_law_closed", "_law_closed", top 12, f, _, n__law_closed, false, rfl, fun_mk l c k, s__law_closed, rfl, rfl, c__law_closed, (fun h => by cases h), PySem.W.mg_of X N a, (fun_mk l c k).binds (fun _ _ _ _ _ _ us hl => match us, hl with | [_, _], _ => rfl), fun e he => ?_⟩⟩
  cases he
theorem d__law_rules {K : PySem.W.Frag} {cs : List (Addr × Addr)} {h : Heap} {mg : Str → Option Value} {f : Addr} {oc kV dc pm cd ct : Value} {od an : Option Addr} {sl : Array (Option Value)} (X : K.In h) (N : h.Ns mainGlobals mg) (a : PySem.W.nsIn K mainGlobals "_law_rules" = some (some (.ref f)))
    (l : K.lookup f = some ⟨oc, od, .func (PySem.W.fnOf "_law_rules" "_law_rules" (defArgs (top 13)) (defBody (top 13)) (defScope (top 13)) .none kV dc pm an cd ct), sl⟩) (c : PySem.W.codeIn K cd "_law_rules" = true) (k : PySem.W.keepIn K (.ref f) = true) : ∀ fe, fns[11]? = some fe → DefOk K cs mg gi Ps 11 fe := fun fe e => by
  cases e
  refine ⟨⟨w__law_rules, "_law_rules", "_law_rules", top 13, f, _, n__law_rules, false, rfl, fun_mk l c k, s__law_rules, rfl, rfl, c__law_rules, (fun h => by cases h), PySem.W.mg_of X N a, (fun_mk l c k).binds (fun _ _ _ _ _ _ us hl => match us, hl with | [_, _, _], _ => rfl), fun e he => ?_⟩⟩
  cases he
theorem d_law {K : PySem.W.Frag} {cs : List (Addr × Addr)} {h : Heap} {mg : Str → Option Value} {f : Addr} {oc kV dc pm cd ct : Value} {od an : Option Addr} {sl : Array (Option Value)} (X : K.In h) (N : h.Ns mainGlobals mg) (a : PySem.W.nsIn K mainGlobals "law" = some (some (.ref f)))
    (l : K.lookup f = some ⟨oc, od, .func (PySem.W.fnOf "law" "law" (defArgs (top 14)) (defBody (top 14)) (defScope (top 14)) .none kV dc pm an cd ct), sl⟩) (c : PySem.W.codeIn K cd "law" = true) (k : PySem.W.keepIn K (.ref f) = true) : ∀ fe, fns[12]? = some fe → DefOk K cs mg gi Ps 12 fe := fun fe e => by
  cases e
  refine ⟨⟨w_law, "law", "law", top 14, f, _, n_law, false, rfl, fun_mk l c k, s_law, rfl, rfl, c_law, (fun h => by cases h), PySem.W.mg_of X N a, (fun_mk l c k).binds (fun _ _ _ _ _ _ us hl => match us, hl with | [_], _ => rfl), fun e he => ?_⟩⟩
  cases he
def gxn : List Str := ["has_letters", "is_closed"]
theorem all_mk {P : Program} {w : World} {K : PySem.W.Frag} {h : Heap} {mg : Str → Option Value} {fa : Addr} (X : K.In h) (N : h.Ns mainGlobals mg) (hfa : mg "law" = some (.ref fa))
    {tc0 tp0 : Addr} {f0 : Addr} {oc0 kV0 dc0 pm0 ct0 : Value} {od0 an0 : Option Addr} {sl0 : Array (Option Value)}
    (a0 : PySem.W.nsIn K mainGlobals "has_letters" = some (some (.ref f0))) (l0 : K.lookup f0 = some ⟨oc0, od0, .func (PySem.W.fnOf "has_letters" "has_letters" (defArgs (top 1)) (defBody (top 1)) (defScope (top 1)) .none kV0 dc0 pm0 an0 (.ref tc0) ct0), sl0⟩) (c0 : PySem.W.codeIn K (.ref tc0) "has_letters" = true) (k0 : PySem.W.keepIn K (.ref f0) = true)
    {ec0 : Value} {ed0 : Option Addr} {ev0 : Array Value} {es0 : Array (Option Value)} (m0 : K.lookup tc0 = some ⟨ec0, ed0, .fields ev0, es0⟩) (p0 : ev0[11]? = some (.ref tp0)) (n0 : K.lookup tp0 = none)
    {tc1 tp1 : Addr} {f1 : Addr} {oc1 kV1 dc1 pm1 ct1 : Value} {od1 an1 : Option Addr} {sl1 : Array (Option Value)}
    (a1 : PySem.W.nsIn K mainGlobals "is_closed" = some (some (.ref f1))) (l1 : K.lookup f1 = some ⟨oc1, od1, .func (PySem.W.fnOf "is_closed" "is_closed" (defArgs (top 2)) (defBody (top 2)) (defScope (top 2)) .none kV1 dc1 pm1 an1 (.ref tc1) ct1), sl1⟩) (c1 : PySem.W.codeIn K (.ref tc1) "is_closed" = true) (k1 : PySem.W.keepIn K (.ref f1) = true)
    {ec1 : Value} {ed1 : Option Addr} {ev1 : Array Value} {es1 : Array (Option Value)} (m1 : K.lookup tc1 = some ⟨ec1, ed1, .fields ev1, es1⟩) (p1 : ev1[11]? = some (.ref tp1)) (n1 : K.lookup tp1 = none)
    {cd2 : Value} {f2 : Addr} {oc2 kV2 dc2 pm2 ct2 : Value} {od2 an2 : Option Addr} {sl2 : Array (Option Value)}
    (a2 : PySem.W.nsIn K mainGlobals "closed_lots" = some (some (.ref f2))) (l2 : K.lookup f2 = some ⟨oc2, od2, .func (PySem.W.fnOf "closed_lots" "closed_lots" (defArgs (top 3)) (defBody (top 3)) (defScope (top 3)) .none kV2 dc2 pm2 an2 cd2 ct2), sl2⟩) (c2 : PySem.W.codeIn K cd2 "closed_lots" = true) (k2 : PySem.W.keepIn K (.ref f2) = true)
    {cd3 : Value} {f3 : Addr} {oc3 kV3 dc3 pm3 ct3 : Value} {od3 an3 : Option Addr} {sl3 : Array (Option Value)}
    (a3 : PySem.W.nsIn K mainGlobals "_law_flow" = some (some (.ref f3))) (l3 : K.lookup f3 = some ⟨oc3, od3, .func (PySem.W.fnOf "_law_flow" "_law_flow" (defArgs (top 5)) (defBody (top 5)) (defScope (top 5)) .none kV3 dc3 pm3 an3 cd3 ct3), sl3⟩) (c3 : PySem.W.codeIn K cd3 "_law_flow" = true) (k3 : PySem.W.keepIn K (.ref f3) = true)
    {cd4 : Value} {f4 : Addr} {oc4 kV4 dc4 pm4 ct4 : Value} {od4 an4 : Option Addr} {sl4 : Array (Option Value)}
    (a4 : PySem.W.nsIn K mainGlobals "_law_draw" = some (some (.ref f4))) (l4 : K.lookup f4 = some ⟨oc4, od4, .func (PySem.W.fnOf "_law_draw" "_law_draw" (defArgs (top 6)) (defBody (top 6)) (defScope (top 6)) .none kV4 dc4 pm4 an4 cd4 ct4), sl4⟩) (c4 : PySem.W.codeIn K cd4 "_law_draw" = true) (k4 : PySem.W.keepIn K (.ref f4) = true)
    {cd5 : Value} {f5 : Addr} {oc5 kV5 dc5 pm5 ct5 : Value} {od5 an5 : Option Addr} {sl5 : Array (Option Value)}
    (a5 : PySem.W.nsIn K mainGlobals "_law_pick" = some (some (.ref f5))) (l5 : K.lookup f5 = some ⟨oc5, od5, .func (PySem.W.fnOf "_law_pick" "_law_pick" (defArgs (top 7)) (defBody (top 7)) (defScope (top 7)) .none kV5 dc5 pm5 an5 cd5 ct5), sl5⟩) (c5 : PySem.W.codeIn K cd5 "_law_pick" = true) (k5 : PySem.W.keepIn K (.ref f5) = true)
    {cd6 : Value} {f6 : Addr} {oc6 kV6 dc6 pm6 ct6 : Value} {od6 an6 : Option Addr} {sl6 : Array (Option Value)}
    (a6 : PySem.W.nsIn K mainGlobals "_law_shuffled" = some (some (.ref f6))) (l6 : K.lookup f6 = some ⟨oc6, od6, .func (PySem.W.fnOf "_law_shuffled" "_law_shuffled" (defArgs (top 8)) (defBody (top 8)) (defScope (top 8)) .none kV6 dc6 pm6 an6 cd6 ct6), sl6⟩) (c6 : PySem.W.codeIn K cd6 "_law_shuffled" = true) (k6 : PySem.W.keepIn K (.ref f6) = true)
    {cd7 : Value} {f7 : Addr} {oc7 kV7 dc7 pm7 ct7 : Value} {od7 an7 : Option Addr} {sl7 : Array (Option Value)}
    (a7 : PySem.W.nsIn K mainGlobals "_law_some" = some (some (.ref f7))) (l7 : K.lookup f7 = some ⟨oc7, od7, .func (PySem.W.fnOf "_law_some" "_law_some" (defArgs (top 9)) (defBody (top 9)) (defScope (top 9)) .none kV7 dc7 pm7 an7 cd7 ct7), sl7⟩) (c7 : PySem.W.codeIn K cd7 "_law_some" = true) (k7 : PySem.W.keepIn K (.ref f7) = true)
    {cd8 : Value} {f8 : Addr} {oc8 kV8 dc8 pm8 ct8 : Value} {od8 an8 : Option Addr} {sl8 : Array (Option Value)}
    (a8 : PySem.W.nsIn K mainGlobals "_law_same" = some (some (.ref f8))) (l8 : K.lookup f8 = some ⟨oc8, od8, .func (PySem.W.fnOf "_law_same" "_law_same" (defArgs (top 10)) (defBody (top 10)) (defScope (top 10)) .none kV8 dc8 pm8 an8 cd8 ct8), sl8⟩) (c8 : PySem.W.codeIn K cd8 "_law_same" = true) (k8 : PySem.W.keepIn K (.ref f8) = true)
    {cd9 : Value} {f9 : Addr} {oc9 kV9 dc9 pm9 ct9 : Value} {od9 an9 : Option Addr} {sl9 : Array (Option Value)}
    (a9 : PySem.W.nsIn K mainGlobals "_law_lots" = some (some (.ref f9))) (l9 : K.lookup f9 = some ⟨oc9, od9, .func (PySem.W.fnOf "_law_lots" "_law_lots" (defArgs (top 11)) (defBody (top 11)) (defScope (top 11)) .none kV9 dc9 pm9 an9 cd9 ct9), sl9⟩) (c9 : PySem.W.codeIn K cd9 "_law_lots" = true) (k9 : PySem.W.keepIn K (.ref f9) = true)
    {cd10 : Value} {f10 : Addr} {oc10 kV10 dc10 pm10 ct10 : Value} {od10 an10 : Option Addr} {sl10 : Array (Option Value)}
    (a10 : PySem.W.nsIn K mainGlobals "_law_closed" = some (some (.ref f10))) (l10 : K.lookup f10 = some ⟨oc10, od10, .func (PySem.W.fnOf "_law_closed" "_law_closed" (defArgs (top 12)) (defBody (top 12)) (defScope (top 12)) .none kV10 dc10 pm10 an10 cd10 ct10), sl10⟩) (c10 : PySem.W.codeIn K cd10 "_law_closed" = true) (k10 : PySem.W.keepIn K (.ref f10) = true)
    {cd11 : Value} {f11 : Addr} {oc11 kV11 dc11 pm11 ct11 : Value} {od11 an11 : Option Addr} {sl11 : Array (Option Value)}
    (a11 : PySem.W.nsIn K mainGlobals "_law_rules" = some (some (.ref f11))) (l11 : K.lookup f11 = some ⟨oc11, od11, .func (PySem.W.fnOf "_law_rules" "_law_rules" (defArgs (top 13)) (defBody (top 13)) (defScope (top 13)) .none kV11 dc11 pm11 an11 cd11 ct11), sl11⟩) (c11 : PySem.W.codeIn K cd11 "_law_rules" = true) (k11 : PySem.W.keepIn K (.ref f11) = true)
    {cd12 : Value} {f12 : Addr} {oc12 kV12 dc12 pm12 ct12 : Value} {od12 an12 : Option Addr} {sl12 : Array (Option Value)}
    (a12 : PySem.W.nsIn K mainGlobals "law" = some (some (.ref f12))) (l12 : K.lookup f12 = some ⟨oc12, od12, .func (PySem.W.fnOf "law" "law" (defArgs (top 14)) (defBody (top 14)) (defScope (top 14)) .none kV12 dc12 pm12 an12 cd12 ct12), sl12⟩) (c12 : PySem.W.codeIn K cd12 "law" = true) (k12 : PySem.W.keepIn K (.ref f12) = true)
    (z_len : PySem.W.nsIn K mainGlobals "len" = some none)
    (z_abs : PySem.W.nsIn K mainGlobals "abs" = some none)
    (z_int : PySem.W.nsIn K mainGlobals "int" = some none)
    (z_min : PySem.W.nsIn K mainGlobals "min" = some none)
    (z_max : PySem.W.nsIn K mainGlobals "max" = some none)
    (z_sum : PySem.W.nsIn K mainGlobals "sum" = some none)
    (z_sorted : PySem.W.nsIn K mainGlobals "sorted" = some none)
    (z_list : PySem.W.nsIn K mainGlobals "list" = some none)
    (z_tuple : PySem.W.nsIn K mainGlobals "tuple" = some none)
    (z_range : PySem.W.nsIn K mainGlobals "range" = some none)
    (z_zip : PySem.W.nsIn K mainGlobals "zip" = some none)
    (z_enumerate : PySem.W.nsIn K mainGlobals "enumerate" = some none)
    (z_isinstance : PySem.W.nsIn K mainGlobals "isinstance" = some none)
    (z_bool : PySem.W.nsIn K mainGlobals "bool" = some none)
    (z_str : PySem.W.nsIn K mainGlobals "str" = some none)
    (z_all : PySem.W.nsIn K mainGlobals "all" = some none)
    (z_any : PySem.W.nsIn K mainGlobals "any" = some none)
    (z_dict : PySem.W.nsIn K mainGlobals "dict" = some none)
    (z_set : PySem.W.nsIn K mainGlobals "set" = some none) (n : Nat) :
    ∃ (fd : FuncData) (cs : List (Addr × Addr)), (∀ p ∈ cs, (∃ x ∈ gxn, PySem.W.tabIn K x = some p) ∧ K.lookup p.2 = none) ∧ (∀ (s : Shared) (v : Value), BindsTo s fd ⟨[v], []⟩ [("script", v)]) ∧ ∀ base : Heap, K.In base → base.Ns mainGlobals mg → (∀ p ∈ cs, GxR.TabB base mg p.1 p.2) → FnOk P w K mg base CX0 (n + 1) fa fd ["script"] (spF (kq K cs w) (runF G Ps (calls G Ps n) 12) 1) := by
  have all : ∀ i fe, gi.fns[i]? = some fe → DefOk K [(tc0, tp0), (tc1, tp1)] mg gi Ps i fe := by
    intro i fe hi
    match i, hi with
    | 0, hi => exact d_has_letters X N a0 l0 c0 k0 (tabIn_of a0 l0 rfl m0 p0) (by simp) fe hi
    | 1, hi => exact d_is_closed X N a1 l1 c1 k1 (tabIn_of a1 l1 rfl m1 p1) (by simp) fe hi
    | 2, hi => exact d_closed_lots X N a2 l2 c2 k2 fe hi
    | 3, hi => exact d__law_flow X N a3 l3 c3 k3 fe hi
    | 4, hi => exact d__law_draw X N a4 l4 c4 k4 fe hi
    | 5, hi => exact d__law_pick X N a5 l5 c5 k5 fe hi
    | 6, hi => exact d__law_shuffled X N a6 l6 c6 k6 fe hi
    | 7, hi => exact d__law_some X N a7 l7 c7 k7 fe hi
    | 8, hi => exact d__law_same X N a8 l8 c8 k8 fe hi
    | 9, hi => exact d__law_lots X N a9 l9 c9 k9 fe hi
    | 10, hi => exact d__law_closed X N a10 l10 c10 k10 fe hi
    | 11, hi => exact d__law_rules X N a11 l11 c11 k11 fe hi
    | 12, hi => exact d_law X N a12 l12 c12 k12 fe hi
    | n + 13, hi => cases hi
  have blt : ∀ x ∈ bltNames, mg x = none := by
    intro x hx
    unfold bltNames at hx
    simp only [List.mem_cons, List.not_mem_nil, or_false] at hx
    rcases hx with rfl | rfl | rfl | rfl | rfl | rfl | rfl | rfl | rfl | rfl | rfl | rfl | rfl | rfl | rfl | rfl | rfl | rfl | rfl
    · exact PySem.W.mg_none_of X N z_len
    · exact PySem.W.mg_none_of X N z_abs
    · exact PySem.W.mg_none_of X N z_int
    · exact PySem.W.mg_none_of X N z_min
    · exact PySem.W.mg_none_of X N z_max
    · exact PySem.W.mg_none_of X N z_sum
    · exact PySem.W.mg_none_of X N z_sorted
    · exact PySem.W.mg_none_of X N z_list
    · exact PySem.W.mg_none_of X N z_tuple
    · exact PySem.W.mg_none_of X N z_range
    · exact PySem.W.mg_none_of X N z_zip
    · exact PySem.W.mg_none_of X N z_enumerate
    · exact PySem.W.mg_none_of X N z_isinstance
    · exact PySem.W.mg_none_of X N z_bool
    · exact PySem.W.mg_none_of X N z_str
    · exact PySem.W.mg_none_of X N z_all
    · exact PySem.W.mg_none_of X N z_any
    · exact PySem.W.mg_none_of X N z_dict
    · exact PySem.W.mg_none_of X N z_set
  have con : ∀ (i : Nat) (x : Str) (d : D), gi.cons[i]? = some x → G[i]? = some d → ∃ v u, mg x = some u ∧ RelV v u ∧ ∀ φ n H, RV (kq K [(tc0, tp0), (tc1, tp1)] w) φ n H v d := by
    intro i x d hx hd
    match i, hx, hd with
    | n + 0, hx, _ => cases hx
  refine ⟨PySem.W.fnOf "law" "law" (defArgs (top 14)) (defBody (top 14)) (defScope (top 14)) .none kV12 dc12 pm12 an12 cd12 ct12, [(tc0, tp0), (tc1, tp1)], ?_, fun s v => .of_eq rfl, fun base _ _ tb => ?_⟩
  · intro p hp
    simp only [List.mem_cons, List.not_mem_nil, or_false] at hp
    rcases hp with rfl | rfl
    · exact ⟨⟨"has_letters", by decide, tabIn_of a0 l0 rfl m0 p0⟩, n0⟩
    · exact ⟨⟨"is_closed", by decide, tabIn_of a1 l1 rfl m1 p1⟩, n1⟩
  · have z := fn_ok (P := P) (w := w) (base := base) (G := G) (Ps := Ps) (K0 := K) (cf := calls G Ps n) (f := 12) (fe := ⟨"law", ["script"], []⟩) (g := false) rfl (fun_mk l12 c12 k12) s_law rfl rfl c_law (fun h => by cases h) (calls_ok tb all blt con n) blt con
    rw [calls_length] at z
    have e := hfa.symm.trans (PySem.W.mg_of X N a12)
    cases e
    exact z
end Kp

/-! Ky, part A: what is to hold behind a run of the reckoner. Own work. -/
namespace Kp
open PySem

/-- a sign that keeps a term whole -/
def Dm {α : Sort _} (_ : α) : Type := Unit
/-- x ends, with Q behind it -/
def Wp {α : Type} (x : Option (α × S)) (Q : α → S → Prop) (_ : Dm Q := ()) : Prop := match x with
  | some (a, s) => Q a s
  | none => False
def Wo {α : Type} (x : Option α) (Q : α → Prop) (_ : Dm Q := ()) : Prop := match x with
  | some a => Q a
  | none => False
def Wx (x : Option (Fl × Env × S)) (Q : Fl → Env → S → Prop) (_ : Dm Q := ()) : Prop := match x with
  | some (f, e, s) => Q f e s
  | none => False
theorem Wp_some {α : Type} {a : α} {s : S} {Q : α → S → Prop} : Wp (some (a, s)) Q = Q a s := (Eq.refl _).trans rfl
theorem Wp_none {α : Type} {Q : α → S → Prop} : Wp none Q = False := (Eq.refl _).trans rfl
theorem Wo_some {α : Type} {a : α} {Q : α → Prop} : Wo (some a) Q = Q a := (Eq.refl _).trans rfl
theorem Wo_none {α : Type} {Q : α → Prop} : Wo none Q = False := (Eq.refl _).trans rfl
theorem Wx_some {f : Fl} {e : Env} {s : S} {Q : Fl → Env → S → Prop} : Wx (some (f, e, s)) Q = Q f e s := (Eq.refl _).trans rfl
theorem Wx_none {Q : Fl → Env → S → Prop} : Wx none Q = False := (Eq.refl _).trans rfl
theorem Wp_ext {α : Type} {x : Option (α × S)} {Q Q' : α → S → Prop} (h : ∀ a s, Q a s = Q' a s) : Wp x Q = Wp x Q' := by
  have e : Q = Q' := funext fun a => funext fun s => h a s
  rw [e]
theorem Wo_ext {α : Type} {x : Option α} {Q Q' : α → Prop} (h : ∀ a, Q a = Q' a) : Wo x Q = Wo x Q' := by
  have e : Q = Q' := funext fun a => h a
  rw [e]
theorem Wp_bd {α β : Type} {x : Option (α × S)} {f : α → S → Option (β × S)} {Q : β → S → Prop} : Wp (bd x f) Q = Wp x fun a s => Wp (f a s) Q := by
  cases x with
  | none => rfl
  | some p => rfl
theorem Wp_map {α β : Type} {x : Option α} {g : α → β × S} {Q : β → S → Prop} : Wp (x.map g) Q = Wo x fun a => Q (g a).1 (g a).2 := by
  cases x with
  | none => rfl
  | some p => rfl
theorem Wp_bind {α β : Type} {x : Option α} {g : α → Option (β × S)} {Q : β → S → Prop} : Wp (x.bind g) Q = Wo x fun a => Wp (g a) Q := by
  cases x with
  | none => rfl
  | some p => rfl
theorem Wo_map {α β : Type} {x : Option α} {g : α → β} {Q : β → Prop} : Wo (x.map g) Q = Wo x fun a => Q (g a) := by
  cases x with
  | none => rfl
  | some p => rfl
theorem Wo_bind {α β : Type} {x : Option α} {g : α → Option β} {Q : β → Prop} : Wo (x.bind g) Q = Wo x fun a => Wo (g a) Q := by
  cases x with
  | none => rfl
  | some p => rfl
theorem Wp_if {α : Type} {c : Prop} [Decidable c] {x : Option (α × S)} {Q : α → S → Prop} : Wp (if c then x else none) Q = (c ∧ Wp x Q) := by
  by_cases h : c <;> simp [h, Wp]
theorem Wo_if {α : Type} {c : Prop} [Decidable c] {x : Option α} {Q : α → Prop} : Wo (if c then x else none) Q = (c ∧ Wo x Q) := by
  by_cases h : c <;> simp [h, Wo]
theorem Wp_get {α : Type} {x : Option (α × S)} {Q : α → S → Prop} (h : Wp x Q) : ∃ a s, x = some (a, s) ∧ Q a s := by
  cases x with
  | none => exact h.elim
  | some p => exact ⟨p.1, p.2, rfl, h⟩
theorem Wp_of {α : Type} {x : Option (α × S)} {Q : α → S → Prop} {a : α} {s : S} (h : x = some (a, s)) (q : Q a s) : Wp x Q := by rw [h]; exact q
theorem Wp_imp {α : Type} {x : Option (α × S)} {Q Q' : α → S → Prop} (h : Wp x Q) (k : ∀ a s, Q a s → Q' a s) : Wp x Q' := by
  cases x with
  | none => exact h.elim
  | some p => exact k _ _ h
theorem Wo_imp {α : Type} {x : Option α} {Q Q' : α → Prop} (h : Wo x Q) (k : ∀ a, Q a → Q' a) : Wo x Q' := by
  cases x with
  | none => exact h.elim
  | some p => exact k _ h
theorem Wx_imp {x : Option (Fl × Env × S)} {Q Q' : Fl → Env → S → Prop} (h : Wx x Q) (k : ∀ a e s, Q a e s → Q' a e s) : Wx x Q' := by
  cases x with
  | none => exact h.elim
  | some p => exact k _ _ _ h
theorem Wx_get {x : Option (Fl × Env × S)} {Q : Fl → Env → S → Prop} (h : Wx x Q) : ∃ f e s, x = some (f, e, s) ∧ Q f e s := by
  cases x with
  | none => exact h.elim
  | some p => exact ⟨p.1, p.2.1, p.2.2, rfl, h⟩
/-- a truth value's fork -/
def Wt (x : Option Bool) (a b : Prop) (_ : Dm a := ()) (_ : Dm b := ()) : Prop := match x with
  | some true => a
  | some false => b
  | none => False
theorem Wt_true {a b : Prop} : Wt (some true) a b = a := (Eq.refl _).trans rfl
theorem Wt_false {a b : Prop} : Wt (some false) a b = b := (Eq.refl _).trans rfl
theorem Wt_none {a b : Prop} : Wt none a b = False := (Eq.refl _).trans rfl
theorem Wt_some {c : Bool} {a b : Prop} (h1 : c = true → a) (h2 : c = false → b) : Wt (some c) a b := by
  cases c with
  | true => exact h1 rfl
  | false => exact h2 rfl
/-- a name's value -/
def Wv (x : Option (Option D)) (s : S) (Q : D → S → Prop) (_ : Dm Q := ()) : Prop := match x with
  | some (some d) => Q d s
  | _ => False
theorem Wv_some {d : D} {s : S} {Q : D → S → Prop} : Wv (some (some d)) s Q = Q d s := (Eq.refl _).trans rfl

section
variable {G : List D} {Ps : List Fn} {cf : List CF} {env : Env} {s : S} {Q : D → S → Prop} {a b c o v : E} {as : Es} {n f : Nat}
theorem R_ex (G : List D) (Ps : List Fn) (n f : Nat) (ds : List D) (s : S) : ∃ x, x = runF G Ps (calls G Ps n) f ds s := ⟨_, rfl⟩
/-- a call's run, not to be unfolded -/
noncomputable def R (G : List D) (Ps : List Fn) (n f : Nat) (ds : List D) (s : S) : Option (D × S) := Classical.choose (R_ex G Ps n f ds s)
theorem R_def {ds : List D} : R G Ps n f ds s = runF G Ps (calls G Ps n) f ds s := Classical.choose_spec (R_ex G Ps n f ds s)
theorem wv_var {i : Nat} : Wp (ev G cf (.var i) env s) Q = Wv env[i]? s Q := by
  show Wp (match env[i]? with
    | some (some d) => some (d, s)
    | _ => none) Q = _
  cases env[i]? with
  | none => rfl
  | some x => cases x <;> rfl
theorem wv_con {d : D} : Wp (ev G cf (.con d) env s) Q = Q d s := (Eq.refl _).trans rfl
theorem wv_glo {i : Nat} : Wp (ev G cf (.glo i) env s) Q = Wo G[i]? fun d => Q d s := by
  show Wp (G[i]?.map fun d => (d, s)) Q = _
  rw [Wp_map]
theorem wv_bin {op : BOp} : Wp (ev G cf (.bin op a b) env s) Q = Wp (ev G cf a env s) fun x s1 => Wp (ev G cf b env s1) fun y s2 => Wp (binD op x y s2) Q := by
  rw [ev]
  repeat (first | rfl | (refine Wp_ext fun _ _ => ?_) | (rw [Wp_bd]) | rw [Wp_map] | rw [Wp_if])
theorem wv_neg : Wp (ev G cf (.neg a) env s) Q = Wp (ev G cf a env s) fun x s1 => Wp (match x with
    | .int i => some (D.int (-i), s1)
    | _ => none) Q := by
  rw [ev]
  repeat (first | rfl | (refine Wp_ext fun _ _ => ?_) | (rw [Wp_bd]) | rw [Wp_map] | rw [Wp_if])
theorem wv_not : Wp (ev G cf (.not a) env s) Q = Wp (ev G cf a env s) fun x s1 => Wo (truD s1 x) fun b => Q (.bl (!b)) s1 := by
  rw [ev]
  repeat (first | rfl | (refine Wp_ext fun _ _ => ?_) | (rw [Wp_bd]) | rw [Wp_map] | rw [Wp_if])
theorem wv_and : Wp (ev G cf (.and as) env s) Q = Wp (evand G cf as env s) Q := (Eq.refl _).trans rfl
theorem wv_or : Wp (ev G cf (.or as) env s) Q = Wp (evor G cf as env s) Q := (Eq.refl _).trans rfl
theorem wv_and1 : Wp (evand G cf (.cons a .nil) env s) Q = Wp (ev G cf a env s) Q := by
  rw [evand]
  repeat (first | rfl | (refine Wp_ext fun _ _ => ?_) | (rw [Wp_bd]) | rw [Wp_map] | rw [Wp_if])
theorem wt_match {x : D} {s1 : S} {y z : Option (D × S)} : Wp (match truD s1 x with
    | some true => y
    | some false => z
    | none => none) Q = Wt (truD s1 x) (Wp y Q) (Wp z Q) := by
  cases truD s1 x with
  | none => rfl
  | some b => cases b <;> rfl
theorem wv_andc : Wp (evand G cf (.cons a (.cons b as)) env s) Q = Wp (ev G cf a env s) fun x s1 => Wt (truD s1 x) (Wp (evand G cf (.cons b as) env s1) Q) (Q x s1) := by
  rw [evand, Wp_bd]
  exact Wp_ext fun _ _ => wt_match
theorem wv_or1 : Wp (evor G cf (.cons a .nil) env s) Q = Wp (ev G cf a env s) Q := by
  rw [evor]
  repeat (first | rfl | (refine Wp_ext fun _ _ => ?_) | (rw [Wp_bd]) | rw [Wp_map] | rw [Wp_if])
theorem wv_orc : Wp (evor G cf (.cons a (.cons b as)) env s) Q = Wp (ev G cf a env s) fun x s1 => Wt (truD s1 x) (Q x s1) (Wp (evor G cf (.cons b as) env s1) Q) := by
  rw [evor, Wp_bd]
  exact Wp_ext fun _ _ => wt_match
theorem wv_cmp {op : COp} : Wp (ev G cf (.cmp op a b) env s) Q = Wp (ev G cf a env s) fun x s1 => Wp (ev G cf b env s1) fun y s2 => Wo (cmpD op x y s2) fun c => Q (.bl c) s2 := by
  rw [ev]
  repeat (first | rfl | (refine Wp_ext fun _ _ => ?_) | (rw [Wp_bd]) | rw [Wp_map] | rw [Wp_if])
theorem wv_chn {o1 o2 : COp} : Wp (ev G cf (.chn o1 o2 a b c) env s) Q = Wp (ev G cf a env s) fun x s1 => Wp (ev G cf b env s1) fun y s2 => Wt (cmpD o1 x y s2) (Wp (ev G cf c env s2) fun z s3 => Wo (cmpD o2 y z s3) fun r => Q (.bl r) s3) (Q (.bl false) s2) := by
  rw [ev, Wp_bd]
  refine Wp_ext fun x s1 => ?_
  rw [Wp_bd]
  refine Wp_ext fun y s2 => ?_
  cases cmpD o1 x y s2 with
  | none => rfl
  | some r => cases r with
    | true =>
      show Wp (bd _ _) Q = Wp _ _
      rw [Wp_bd]
      exact Wp_ext fun _ _ => Wp_map
    | false => rfl
theorem wv_ite : Wp (ev G cf (.ite c a b) env s) Q = Wp (ev G cf c env s) fun x s1 => Wt (truD s1 x) (Wp (ev G cf a env s1) Q) (Wp (ev G cf b env s1) Q) := by
  rw [ev, Wp_bd]
  exact Wp_ext fun _ _ => wt_match
theorem wv_idx : Wp (ev G cf (.idx a b) env s) Q = Wp (ev G cf a env s) fun x s1 => Wp (ev G cf b env s1) fun y s2 => Wo (idxD x y s2) fun d => Q d s2 := by
  rw [ev]
  repeat (first | rfl | (refine Wp_ext fun _ _ => ?_) | (rw [Wp_bd]) | rw [Wp_map] | rw [Wp_if])
theorem wv_slc {mu : Bool} {lo hi : Eo} : Wp (ev G cf (.slc mu a lo hi) env s) Q = Wp (ev G cf a env s) fun x s1 => Wp (evo G cf lo env s1) fun l s2 => Wp (evo G cf hi env s2) fun h s3 => Wp (slcD mu x l h s3) Q := by
  rw [ev]
  repeat (first | rfl | (refine Wp_ext fun _ _ => ?_) | (rw [Wp_bd]) | rw [Wp_map] | rw [Wp_if])
theorem wo_none {Q : Option Int → S → Prop} : Wp (evo G cf .none env s) Q = Q none s := (Eq.refl _).trans rfl
theorem wo_some {Q : Option Int → S → Prop} : Wp (evo G cf (.some a) env s) Q = Wp (ev G cf a env s) fun x s1 => Wp (match x with
    | .int i => some (some i, s1)
    | _ => none) Q := by
  rw [evo]
  repeat (first | rfl | (refine Wp_ext fun _ _ => ?_) | (rw [Wp_bd]) | rw [Wp_map] | rw [Wp_if])
theorem wv_tup : Wp (ev G cf (.tup as) env s) Q = Wp (evs G cf as env s) fun ds s1 => Wp (newT ds s1) Q := by
  rw [ev]
  repeat (first | rfl | (refine Wp_ext fun _ _ => ?_) | (rw [Wp_bd]) | rw [Wp_map] | rw [Wp_if])
theorem wv_lst {mu : Bool} : Wp (ev G cf (.lst mu as) env s) Q = Wp (evs G cf as env s) fun ds s1 => Wp (newL mu ds s1) Q := by
  rw [ev]
  repeat (first | rfl | (refine Wp_ext fun _ _ => ?_) | (rw [Wp_bd]) | rw [Wp_map] | rw [Wp_if])
theorem wv_dnew : Wp (ev G cf .dnew env s) Q = Q (.ref s.length) (s ++ [.dct []]) := (Eq.refl _).trans rfl
theorem wv_bi {bi : Bi} {mu : Bool} : Wp (ev G cf (.bi bi mu as) env s) Q = Wp (evs G cf as env s) fun ds s1 => Wp (biD bi mu ds s1) Q := by
  rw [ev]
  repeat (first | rfl | (refine Wp_ext fun _ _ => ?_) | (rw [Wp_bd]) | rw [Wp_map] | rw [Wp_if])
theorem wv_rgl {tu mu : Bool} : Wp (ev G cf (.rgl tu mu a) env s) Q = Wp (ev G cf a env s) fun x s1 => Wp (biD (if tu then .tupRg else .listRg) mu [x] s1) Q := by
  rw [ev]
  repeat (first | rfl | (refine Wp_ext fun _ _ => ?_) | (rw [Wp_bd]) | rw [Wp_map] | rw [Wp_if])
theorem wv_mt {m : Mt} : Wp (ev G cf (.mt m o as) env s) Q = Wp (ev G cf o env s) fun x s1 => mtGo m x s1 = true ∧ Wp (evs G cf as env s1) fun ds s2 => Wp (mtD m x ds s2) Q := by
  rw [ev]
  repeat (first | rfl | (refine Wp_ext fun _ _ => ?_) | (rw [Wp_bd]) | rw [Wp_map] | rw [Wp_if])
theorem wv_isi {t : Ty} : Wp (ev G cf (.isi a t) env s) Q = Wp (ev G cf a env s) fun x s1 => Wo (isiD x t s1) fun b => Q (.bl b) s1 := by
  rw [ev]
  repeat (first | rfl | (refine Wp_ext fun _ _ => ?_) | (rw [Wp_bd]) | rw [Wp_map] | rw [Wp_if])
theorem wv_isn : Wp (ev G cf (.isn a) env s) Q = Wp (ev G cf a env s) fun x s1 => Q (.bl (decide (x = .non))) s1 := by
  rw [ev]
  repeat (first | rfl | (refine Wp_ext fun _ _ => ?_) | (rw [Wp_bd]) | rw [Wp_map] | rw [Wp_if])
theorem wv_ntn : Wp (ev G cf (.ntn a) env s) Q = Wp (ev G cf a env s) fun x s1 => Q (.bl (!decide (x = .non))) s1 := by
  rw [ev]
  repeat (first | rfl | (refine Wp_ext fun _ _ => ?_) | (rw [Wp_bd]) | rw [Wp_map] | rw [Wp_if])
theorem ws_nil {Q : List D → S → Prop} : Wp (evs G cf .nil env s) Q = Q [] s := (Eq.refl _).trans rfl
theorem ws_cons {Q : List D → S → Prop} : Wp (evs G cf (.cons a as) env s) Q = Wp (ev G cf a env s) fun x s1 => Wp (evs G cf as env s1) fun xs s2 => Q (x :: xs) s2 := by
  rw [evs]
  repeat (first | rfl | (refine Wp_ext fun _ _ => ?_) | (rw [Wp_bd]) | rw [Wp_map] | rw [Wp_if])
theorem wv_call : Wp (ev G (calls G Ps (n + 1)) (.call f as) env s) Q = Wp (evs G (calls G Ps (n + 1)) as env s) fun ds s1 => Wp (R G Ps n f ds s1) Q := by
  rw [ev, Wp_bd]
  exact Wp_ext fun ds s1 => by rw [R_def]; rfl
theorem wv_callk {ks : Es} {nms : List Str} {perm : List Nat} : Wp (ev G (calls G Ps (n + 1)) (.callk f as ks nms perm) env s) Q = Wp (evs G (calls G Ps (n + 1)) as env s) fun ds s1 => Wp (evs G (calls G Ps (n + 1)) ks env s1) fun es s2 => Wo (permD (ds ++ es) perm) fun us => Wp (R G Ps n f us s2) Q := by
  rw [ev, Wp_bd]
  refine Wp_ext fun ds s1 => ?_
  rw [Wp_bd]
  refine Wp_ext fun es s2 => ?_
  show Wp ((permD (ds ++ es) perm).bind fun us => runF G Ps (calls G Ps n) f us s2) Q = _
  rw [Wp_bind]
  exact Wo_ext fun us => by rw [R_def]
/-- one turn of a comprehension -/
def stp (G : List D) (cf : List CF) (own : List Nat) (t : Tg) (ifs : Es) (e : E) (env : Env) : D → S → Option (Option D × S) := fun d s' => match asgT t d (wipeD env own) with
  | some env' => bd (evt G cf ifs env' s') fun b s2 => if b then bd (ev G cf e env' s2) fun x s3 => some (some x, s3) else some (none, s2)
  | none => none
theorem wv_lc {mu : Bool} {own : List Nat} {t : Tg} {it : It} {ifs : Es} {e : E} : Wp (ev G cf (.lc mu own t it ifs e) env s) Q = Wp (evi G cf it env s) fun p s1 => Wp (compL (stp G cf own t ifs e env) p.2 p.1 s1) fun ds s2 => Wp (newL mu ds s2) Q := by
  rw [ev, Wp_bd]
  refine Wp_ext fun p s1 => ?_
  obtain ⟨ds, lk⟩ := p
  show Wp (bd (compL (stp G cf own t ifs e env) lk ds s1) (newL mu)) Q = _
  rw [Wp_bd]
theorem wv_gx {k : Gk} {own : List Nat} {t : Tg} {it : It} {ifs : Es} {e : E} : Wp (ev G (calls G Ps (n + 1)) (.gx k own t it ifs e) env s) Q = Wp (evi G (calls G Ps (n + 1)) it env s) fun p s1 => Wp (gxL (stp G (calls G Ps n) own t ifs e env) k.stop p.2 p.1 s1) fun ds s2 => Wp (k.fin ds s2) Q := by
  show Wp (bd (evi G (calls G Ps (n + 1)) it env s) fun p s1 => bd (gxL (stp G (calls G Ps n) own t ifs e env) k.stop p.2 p.1 s1) k.fin) Q = _
  rw [Wp_bd]
  exact Wp_ext fun _ _ => Wp_bd
theorem wp_stp {own : List Nat} {t : Tg} {ifs : Es} {e : E} {d : D} {Q : Option D → S → Prop} : Wp (stp G cf own t ifs e env d s) Q = Wo (asgT t d (wipeD env own)) fun env' => Wp (evt G cf ifs env' s) fun b s2 => Wt (some b) (Wp (ev G cf e env' s2) fun x s3 => Q (some x) s3) (Q none s2) := by
  unfold stp
  cases asgT t d (wipeD env own) with
  | none => rfl
  | some env' =>
    show Wp (bd _ _) Q = Wp _ _
    rw [Wp_bd]
    refine Wp_ext fun b s2 => ?_
    cases b with
    | true =>
      show Wp (bd _ _) Q = Wp _ _
      rw [Wp_bd]
      rfl
    | false => rfl
theorem wtt_nil {Q : Bool → S → Prop} : Wp (evt G cf .nil env s) Q = Q true s := (Eq.refl _).trans rfl
theorem wtt_cons {Q : Bool → S → Prop} : Wp (evt G cf (.cons a as) env s) Q = Wp (ev G cf a env s) fun x s1 => Wt (truD s1 x) (Wp (evt G cf as env s1) Q) (Q false s1) := by
  rw [evt, Wp_bd]
  refine Wp_ext fun x s1 => ?_
  cases truD s1 x with
  | none => rfl
  | some b => cases b <;> rfl
section
variable {Q : List D × Lk → S → Prop}
theorem wi_seq : Wp (evi G cf (.seq a) env s) Q = Wp (ev G cf a env s) fun x s1 => Wo (srcD s1 x) fun p => Q (p.2.1, p.2.2) s1 := by
  rw [evi, Wp_bd]
  exact Wp_ext fun _ _ => Wp_map
/-- a number that a range may have -/
def rngOk (i : Int) : Prop := -(2 ^ 62) ≤ i ∧ i < 2 ^ 62
theorem rng_ok {i : Int} (h0 : -1000000000 ≤ i) (h1 : i ≤ 1000000000) : rngOk i := by
  unfold rngOk
  omega
def Wr (x : D) (s : S) (Q : List D × Lk → S → Prop) (_ : Dm Q := ()) : Prop := match x with
  | .int n => rngOk n ∧ Q ((List.range n.toNat).map fun i => D.int (i : Nat), []) s
  | _ => False
def Wr2 (x y : D) (s : S) (Q : List D × Lk → S → Prop) (_ : Dm Q := ()) : Prop := match x, y with
  | .int i, .int j => rngOk i ∧ rngOk j ∧ Q ((List.range (j - i).toNat).map fun k => D.int (i + (k : Nat)), []) s
  | _, _ => False
theorem Wr_int {n : Int} : Wr (.int n) s Q = (rngOk n ∧ Q ((List.range n.toNat).map fun i => D.int (i : Nat), []) s) := (Eq.refl _).trans rfl
theorem Wr2_int {i j : Int} : Wr2 (.int i) (.int j) s Q = (rngOk i ∧ rngOk j ∧ Q ((List.range (j - i).toNat).map fun k => D.int (i + (k : Nat)), []) s) := (Eq.refl _).trans rfl
theorem wi_rng : Wp (evi G cf (.rng a) env s) Q = Wp (ev G cf a env s) fun x s1 => Wr x s1 Q := by
  rw [evi, Wp_bd]
  refine Wp_ext fun x s1 => ?_
  cases x with
  | int n => exact Wp_if
  | _ => rfl
theorem wi_rng2 : Wp (evi G cf (.rng2 a b) env s) Q = Wp (ev G cf a env s) fun x s1 => Wp (ev G cf b env s1) fun y s2 => Wr2 x y s2 Q := by
  rw [evi, Wp_bd]
  refine Wp_ext fun x s1 => ?_
  rw [Wp_bd]
  refine Wp_ext fun y s2 => ?_
  cases x with
  | int i => cases y with
    | int j =>
      refine Wp_if.trans ?_
      exact propext ⟨fun ⟨⟨h1, h2, h3, h4⟩, h5⟩ => ⟨⟨h1, h2⟩, ⟨h3, h4⟩, h5⟩, fun ⟨⟨h1, h2⟩, ⟨h3, h4⟩, h5⟩ => ⟨⟨h1, h2, h3, h4⟩, h5⟩⟩
    | _ => rfl
  | _ => cases y <;> rfl
end
section
variable {Q : Fl → Env → S → Prop} {st : St} {ss : Ss} {t : Tg}
theorem wx_nil : Wx (exs G cf .nil env s) Q = Q .nx env s := (Eq.refl _).trans rfl
/-- what is to hold behind a statement, where others follow -/
def Seq (G : List D) (cf : List CF) (ss : Ss) (Q : Fl → Env → S → Prop) : Fl → Env → S → Prop
  | .nx, env, s => Wx (exs G cf ss env s) Q
  | .rt d, env, s => Q (.rt d) env s
  | .bk, env, s => Q .bk env s
  | .ct, env, s => Q .ct env s
theorem seq_nx : Seq G cf ss Q .nx env s = Wx (exs G cf ss env s) Q := (Eq.refl _).trans rfl
theorem seq_rt {d : D} : Seq G cf ss Q (.rt d) env s = Q (.rt d) env s := (Eq.refl _).trans rfl
theorem seq_bk : Seq G cf ss Q .bk env s = Q .bk env s := (Eq.refl _).trans rfl
theorem seq_ct : Seq G cf ss Q .ct env s = Q .ct env s := (Eq.refl _).trans rfl
theorem wx_cons : Wx (exs G cf (.cons st ss) env s) Q = Wx (ex G cf st env s) (Seq G cf ss Q) := by
  rw [exs]
  cases ex G cf st env s with
  | none => rfl
  | some p =>
    obtain ⟨fl, e, s'⟩ := p
    cases fl <;> rfl
theorem wx_asg {e : E} : Wx (ex G cf (.asg t e) env s) Q = Wp (ev G cf e env s) fun x s1 => Wo (asgT t x env) fun env' => Q .nx env' s1 := by
  rw [ex]
  cases ev G cf e env s with
  | none => rfl
  | some p =>
    obtain ⟨x, s1⟩ := p
    show Wx ((asgT t x env).map fun env' => (Fl.nx, env', s1)) Q = Wo (asgT t x env) _
    cases asgT t x env <;> rfl
theorem wx_asgLc {i : Nat} {mu : Bool} {own : List Nat} {it : It} {ifs : Es} {e : E} : Wx (ex G cf (.asgLc i mu own t it ifs e) env s) Q = Wp (ev G cf (.lc mu own t it ifs e) env s) fun x s1 => Q .nx (env.set i (some x)) s1 := by
  rw [ex]
  cases ev G cf (.lc mu own t it ifs e) env s <;> rfl
theorem wx_par {is : List Nat} : Wx (ex G cf (.par is as) env s) Q = Wp (evs G cf as env s) fun ds s1 => ds.length = is.length ∧ Q .nx (setAll env is ds) s1 := by
  rw [ex]
  cases evs G cf as env s with
  | none => rfl
  | some p =>
    obtain ⟨x, s1⟩ := p
    show Wx (if x.length = is.length then some (Fl.nx, setAll env is x, s1) else none) Q = _
    by_cases h : x.length = is.length
    · rw [if_pos h]; exact propext ⟨fun z => ⟨h, z⟩, fun z => z.2⟩
    · rw [if_neg h]; exact propext ⟨fun z => z.elim, fun z => h z.1⟩
theorem wx_sset {i : E} : Wx (ex G cf (.sset o i v) env s) Q = Wp (ev G cf v env s) fun x s1 => Wp (ev G cf o env s1) fun y s2 => Wp (ev G cf i env s2) fun z s3 => Wo (setD y z x s3) fun s4 => Q .nx env s4 := by
  rw [ex]
  cases ev G cf v env s with
  | none => rfl
  | some p =>
    obtain ⟨x, s1⟩ := p
    show Wx (match ev G cf o env s1 with
      | some (y, s2) => match ev G cf i env s2 with
        | some (z, s3) => (setD y z x s3).map fun s4 => (Fl.nx, env, s4)
        | none => none
      | none => none) Q = Wp (ev G cf o env s1) _
    cases ev G cf o env s1 with
    | none => rfl
    | some p =>
      obtain ⟨y, s2⟩ := p
      show Wx (match ev G cf i env s2 with
        | some (z, s3) => (setD y z x s3).map fun s4 => (Fl.nx, env, s4)
        | none => none) Q = Wp (ev G cf i env s2) _
      cases ev G cf i env s2 with
      | none => rfl
      | some p =>
        obtain ⟨z, s3⟩ := p
        show Wx ((setD y z x s3).map fun s4 => (Fl.nx, env, s4)) Q = Wo (setD y z x s3) _
        cases setD y z x s3 <;> rfl
theorem wx_aug {i : Nat} {op : BOp} {e : E} : Wx (ex G cf (.aug i op e) env s) Q = Wv env[i]? s fun x s0 => Wp (ev G cf e env s0) fun y s1 => Wp (iopD op x y s1) fun z s2 => Q .nx (env.set i (some z)) s2 := by
  rw [ex]
  cases env[i]? with
  | none => rfl
  | some w => cases w with
    | none => rfl
    | some x =>
      show Wx (match ev G cf e env s with
        | some (y, s1) => match iopD op x y s1 with
          | some (z, s2) => some (Fl.nx, env.set i (some z), s2)
          | none => none
        | none => none) Q = Wp (ev G cf e env s) _
      cases ev G cf e env s with
      | none => rfl
      | some p =>
        obtain ⟨y, s1⟩ := p
        show Wx (match iopD op x y s1 with
          | some (z, s2) => some (Fl.nx, env.set i (some z), s2)
          | none => none) Q = Wp (iopD op x y s1) _
        cases iopD op x y s1 <;> rfl
theorem wx_exp {e : E} : Wx (ex G cf (.exp e) env s) Q = Wp (ev G cf e env s) fun _ s1 => Q .nx env s1 := by
  rw [ex]
  cases ev G cf e env s <;> rfl
theorem wx_ret {e : E} : Wx (ex G cf (.ret e) env s) Q = Wp (ev G cf e env s) fun x s1 => Q (.rt x) env s1 := by
  rw [ex]
  cases ev G cf e env s <;> rfl
theorem wx_retn : Wx (ex G cf .retn env s) Q = Q (.rt .non) env s := (Eq.refl _).trans rfl
theorem wx_ifs {x y : Ss} : Wx (ex G cf (.ifs c x y) env s) Q = Wp (ev G cf c env s) fun d s1 => Wt (truD s1 d) (Wx (exs G cf x env s1) Q) (Wx (exs G cf y env s1) Q) := by
  rw [ex]
  cases ev G cf c env s with
  | none => rfl
  | some p =>
    obtain ⟨d, s1⟩ := p
    show Wx (match truD s1 d with
      | some true => exs G cf x env s1
      | some false => exs G cf y env s1
      | none => none) Q = Wt (truD s1 d) _ _
    cases truD s1 d with
    | none => rfl
    | some b => cases b <;> rfl
/-- one turn of a for -/
def trn (G : List D) (cf : List CF) (t : Tg) (b : Ss) : D → Env → S → Option (Fl × Env × S) := fun d env s => match asgT t d env with
  | some env' => exs G cf b env' s
  | none => none
theorem wx_trn {d : D} : Wx (trn G cf t ss d env s) Q = Wo (asgT t d env) fun env' => Wx (exs G cf ss env' s) Q := by
  unfold trn
  cases asgT t d env <;> rfl
theorem wx_fr {it : It} : Wx (ex G cf (.fr t it ss) env s) Q = Wp (evi G cf it env s) fun p s1 => Wx (forL (trn G cf t ss) p.2 p.1 env s1) Q := by
  rw [ex]
  cases evi G cf it env s with
  | none => rfl
  | some p => rfl
theorem wx_brk : Wx (ex G cf .brk env s) Q = Q .bk env s := (Eq.refl _).trans rfl
theorem wx_cnt : Wx (ex G cf .cnt env s) Q = Q .ct env s := (Eq.refl _).trans rfl
theorem wx_pas : Wx (ex G cf .pas env s) Q = Q .nx env s := (Eq.refl _).trans rfl
end

/-! ### loops -/
/-- a for, by what holds behind each turn -/
theorem for_wp {step : D → Env → S → Option (Fl × Env × S)} {lk : Lk} {Q : Fl → Env → S → Prop} (I : List D → Env → S → Prop) : ∀ (ds : List D) (env : Env) (s : S), I ds env s →
    (∀ d ds env s, I (d :: ds) env s → Wx (step d env s) fun fl env' s' => match fl with
      | .nx => lkOk lk s' = true ∧ I ds env' s'
      | .ct => lkOk lk s' = true ∧ I ds env' s'
      | .bk => Q .nx env' s'
      | .rt v => Q (.rt v) env' s') →
    (∀ env s, I [] env s → Q .nx env s) → Wx (forL step lk ds env s) Q
  | [], env, s, h, _, k => k env s h
  | d :: ds, env, s, h, st, k => by
    have z := st d ds env s h
    unfold forL
    cases e : step d env s with
    | none => rw [e] at z; exact z.elim
    | some p =>
      rw [e] at z
      obtain ⟨fl, env', s'⟩ := p
      cases fl with
      | nx =>
        have z : lkOk lk s' = true ∧ I ds env' s' := z
        show Wx (if lkOk lk s' then forL step lk ds env' s' else none) Q
        rw [if_pos z.1]
        exact for_wp I ds env' s' z.2 st k
      | ct =>
        have z : lkOk lk s' = true ∧ I ds env' s' := z
        show Wx (if lkOk lk s' then forL step lk ds env' s' else none) Q
        rw [if_pos z.1]
        exact for_wp I ds env' s' z.2 st k
      | bk => exact z
      | rt v => exact z
/-- a comprehension, by what holds behind each turn: what is left, what was made -/
theorem comp_wp {step : D → S → Option (Option D × S)} {lk : Lk} {Q : List D → S → Prop} (I : List D → List D → S → Prop) : ∀ (ds acc : List D) (s : S), I ds acc s →
    (∀ d ds acc s, I (d :: ds) acc s → Wp (step d s) fun o s' => lkOk lk s' = true ∧ I ds (acc ++ o.toList) s') →
    (∀ acc s, I [] acc s → Q acc s) → Wp (compL step lk ds s) fun r s' => Q (acc ++ r) s'
  | [], acc, s, h, _, k => by
    show Q (acc ++ []) s
    rw [List.append_nil]
    exact k acc s h
  | d :: ds, acc, s, h, st, k => by
    have z := st d ds acc s h
    unfold compL
    rw [Wp_bd]
    refine Wp_imp z fun o s' z => ?_
    rw [if_pos z.1, Wp_bd]
    refine Wp_imp (comp_wp (Q := Q) I ds (acc ++ o.toList) s' z.2 st k) fun r s2 q => ?_
    rw [List.append_assoc] at q
    exact q
/-- a comprehension that changes nothing -/
theorem comp_map {step : D → S → Option (Option D × S)} {lk : Lk} {Q : List D → S → Prop} (f : D → Option D) (hl : lkOk lk s = true) : ∀ (ds : List D), (∀ d ∈ ds, Wp (step d s) fun o s' => o = f d ∧ s' = s) →
    Q (ds.filterMap f) s → Wp (compL step lk ds s) Q := fun ds h q => by
  have z := comp_wp (step := step) (lk := lk) (Q := fun r s' => r = ds.filterMap f ∧ s' = s) (fun l acc s' => (∀ d ∈ l, d ∈ ds) ∧ s' = s ∧ acc ++ l.filterMap f = ds.filterMap f) ds [] s ⟨fun d hd => hd, rfl, rfl⟩
    (fun d l acc s' ⟨h1, h2, h3⟩ => by
      subst h2
      refine Wp_imp (h d (h1 d List.mem_cons_self)) fun o s2 ⟨e1, e2⟩ => ?_
      subst e1 e2
      refine ⟨hl, fun x hx => h1 x (List.mem_cons_of_mem _ hx), rfl, ?_⟩
      rw [← h3, List.append_assoc]
      cases e : f d with
      | none => rw [List.filterMap_cons_none e]; rfl
      | some y => rw [List.filterMap_cons_some e]; rfl)
    fun acc s' ⟨_, h2, h3⟩ => ⟨by simpa using h3, h2⟩
  refine Wp_imp z fun r s' ⟨e1, e2⟩ => ?_
  rw [List.nil_append] at e1
  rw [e1, e2]
  exact q
theorem comp_all {step : D → S → Option (Option D × S)} {lk : Lk} {Q : List D → S → Prop} (f : D → D) (hl : lkOk lk s = true) (ds : List D) (h : ∀ d ∈ ds, Wp (step d s) fun o s' => o = some (f d) ∧ s' = s) (q : Q (ds.map f) s) : Wp (compL step lk ds s) Q := by
  refine comp_map (fun d => some (f d)) hl ds h ?_
  have e : ∀ l : List D, l.filterMap (fun d => some (f d)) = l.map f := fun l => by
    induction l with
    | nil => rfl
    | cons x l ih =>
      rw [List.map_cons, ← ih]
      rfl
  rw [e]
  exact q
/-! ### defs -/
/-- a def's run -/
theorem R_wp {fn : Fn} {ds : List D} (h : Ps[f]? = some fn) (hl : ds.length = fn.ps) (w : Wx (exs G (calls G Ps n) fn.body (ds.map some ++ List.replicate (fn.nl - ds.length) none) s) fun fl _ s' => match fl with
    | .rt d => Wp (fin fn.keep s d s') Q
    | .nx => Wp (fin fn.keep s .non s') Q
    | _ => False) : Wp (R G Ps n f ds s) Q := by
  rw [R_def]
  unfold runF
  rw [h]
  dsimp only
  rw [if_pos hl]
  cases e : exs G (calls G Ps n) fn.body (ds.map some ++ List.replicate (fn.nl - ds.length) none) s with
  | none => rw [e] at w; exact w.elim
  | some p =>
    rw [e] at w
    obtain ⟨fl, env', s'⟩ := p
    cases fl with
    | nx => exact w
    | rt d => exact w
    | bk => exact w.elim
    | ct => exact w.elim
end
mutual
theorem low_pur (n : Nat) : ∀ d : D, pur d = true → low n d = true
  | .non, _ => rfl
  | .bl _, _ => rfl
  | .int _, _ => rfl
  | .str _, _ => rfl
  | .tup ds, h => lows_pur n ds h
  | .lst ds, h => lows_pur n ds h
  | .ref _, h => by cases h
  | .rol _, h => by cases h
theorem lows_pur (n : Nat) : ∀ ds : List D, purs ds = true → lows n ds = true
  | [], _ => rfl
  | d :: ds, h => by
    have h : (pur d && purs ds) = true := h
    rw [Bool.and_eq_true] at h
    show (low n d && lows n ds) = true
    rw [low_pur n d h.1, lows_pur n ds h.2]
    rfl
end
theorem shut_pur {n : Nat} {s : S} {d : D} (h : pur d = true) : shut n s d = d := by
  cases d <;> first | rfl | cases h
/-- the old cells are as they were but for what is plain -/
def OldS (s s' : S) : Prop := s.length ≤ s'.length ∧ oldOk s s'
theorem fin_wp {s s' : S} {d : D} {Q : D → S → Prop} (h : pur d = true) (ho : oldOk s s') (q : Q d (s'.take s.length)) : Wp (fin false s d s') Q := by
  unfold fin
  rw [if_neg Bool.false_ne_true, shut_pur h, if_pos ⟨low_pur _ d h, ho⟩]
  exact q
theorem fin_keep {s s' : S} {d : D} {Q : D → S → Prop} : Wp (fin true s d s') Q = Q d s' := by
  unfold fin
  rw [if_pos rfl]
  rfl
end Kp

/-! Ky, part B: what the operations give, at data in hand. Own work. -/
namespace Kp
open PySem
section
variable {s : S} {i j : Int} {a b : List D} {x y : Str} {mu : Bool} {c : Bool} {d e : D}
theorem l_addi : binD (.add mu) (.int i) (.int j) s = some (.int (i + j), s) := (Eq.refl _).trans rfl
theorem l_sub : binD .sub (.int i) (.int j) s = some (.int (i - j), s) := (Eq.refl _).trans rfl
theorem l_muli : binD (.mul mu) (.int i) (.int j) s = if (smallI i || smallI j) = true then some (.int (i * j), s) else none := (Eq.refl _).trans rfl
theorem l_mod : binD .mod (.int i) (.int j) s = if 0 < j then some (.int (i % j), s) else none := (Eq.refl _).trans rfl
theorem l_fdiv : binD .fdiv (.int i) (.int j) s = if 0 < j ∧ j < 1073741824 then some (.int (i / j), s) else none := (Eq.refl _).trans rfl
theorem l_addt : binD (.add mu) (.tup a) (.tup b) s = if a.length + b.length ≤ lim then some (.tup (a ++ b), s) else none := (Eq.refl _).trans rfl
theorem l_addl : binD (.add mu) (.lst a) (.lst b) s = newL mu (a ++ b) s := (Eq.refl _).trans rfl
theorem l_pow18 : binD .pow (.int 10) (.int 18) s = some (.int 1000000000000000000, s) := (Eq.refl _).trans rfl
theorem l_iadd : iopD (.add mu) (.int i) (.int j) s = some (.int (i + j), s) := (Eq.refl _).trans rfl
theorem l_eqi : cmpD .eq (.int i) (.int j) s = some (i == j) := (Eq.refl _).trans rfl
theorem l_nei : cmpD .ne (.int i) (.int j) s = some (!(i == j)) := (Eq.refl _).trans rfl
theorem l_lti : cmpD .lt (.int i) (.int j) s = some (decide (i < j)) := (Eq.refl _).trans rfl
theorem l_lei : cmpD .le (.int i) (.int j) s = some (decide (i ≤ j)) := (Eq.refl _).trans rfl
theorem l_gti : cmpD .gt (.int i) (.int j) s = some (decide (j < i)) := (Eq.refl _).trans rfl
theorem l_gei : cmpD .ge (.int i) (.int j) s = some (decide (j ≤ i)) := (Eq.refl _).trans rfl
theorem l_eqb {k : Bool} : cmpD .eq (.bl c) (.bl k) s = some (c == k) := (Eq.refl _).trans rfl
theorem l_ixt : idxD (.tup a) (.int i) s = (ixD a.length i).bind fun j => a[j]? := (Eq.refl _).trans rfl
theorem l_ixl : idxD (.lst a) (.int i) s = (ixD a.length i).bind fun j => a[j]? := (Eq.refl _).trans rfl
theorem l_ix0 : idxD (.ref 0) (.int i) (.lst a :: s) = (ixD a.length i).bind fun j => a[j]? := (Eq.refl _).trans rfl
theorem l_set0 : setD (.ref 0) (.int i) d (.lst a :: s) = (ixD a.length i).map fun j => .lst (a.set j d) :: s := (Eq.refl _).trans rfl
theorem l_tbl : truD s (.bl c) = some c := (Eq.refl _).trans rfl
theorem l_tint : truD s (.int i) = some (i != 0) := (Eq.refl _).trans rfl
theorem l_ttup : truD s (.tup a) = some (!a.isEmpty) := (Eq.refl _).trans rfl
theorem l_tlst : truD s (.lst a) = some (!a.isEmpty) := (Eq.refl _).trans rfl
theorem l_tnon : truD s .non = some false := (Eq.refl _).trans rfl
theorem l_inti : biD .int mu [.int i] s = some (.int i, s) := (Eq.refl _).trans rfl
theorem l_intb : biD .int mu [.bl c] s = some (.int (if c then 1 else 0), s) := (Eq.refl _).trans rfl
theorem l_abs : biD .abs mu [.int i] s = some (.int (if i < 0 then -i else i), s) := (Eq.refl _).trans rfl
theorem l_lenl : biD .len mu [.lst a] s = some (.int a.length, s) := (Eq.refl _).trans rfl
theorem l_lent : biD .len mu [.tup a] s = some (.int a.length, s) := (Eq.refl _).trans rfl
theorem l_min2 : biD .min2 mu [.int i, .int j] s = some (.int (if j < i then j else i), s) := (Eq.refl _).trans rfl
theorem l_max2 : biD .max2 mu [.int i, .int j] s = some (.int (if j > i then j else i), s) := (Eq.refl _).trans rfl
theorem l_listl : biD .list mu [.lst a] s = newL mu a s := (Eq.refl _).trans rfl
theorem l_listt : biD .list mu [.tup a] s = newL mu a s := (Eq.refl _).trans rfl
theorem l_tupl : biD .tuple mu [.lst a] s = newT a s := (Eq.refl _).trans rfl
theorem l_tupt : biD .tuple mu [.tup a] s = newT a s := (Eq.refl _).trans rfl
theorem l_sorted : biD .sorted mu [.lst a] s = (sortD a).bind fun xs => newL mu xs s := (Eq.refl _).trans rfl
theorem l_rgl : biD .listRg mu [.int i] s = if -(lim : Int) ≤ i ∧ i ≤ lim then newL mu ((List.range i.toNat).map fun k => .int (k : Nat)) s else none := (Eq.refl _).trans rfl
theorem l_rgt : biD .tupRg mu [.int i] s = if -(lim : Int) ≤ i ∧ i ≤ lim then newT ((List.range i.toNat).map fun k => .int (k : Nat)) s else none := (Eq.refl _).trans rfl
theorem l_src_t : srcD s (.tup a) = some (true, a, []) := (Eq.refl _).trans rfl
theorem l_src_l : srcD s (.lst a) = some (false, a, []) := (Eq.refl _).trans rfl
theorem l_src_r : srcD s (.rol a) = some (false, a, []) := (Eq.refl _).trans rfl
theorem l_isit : isiD (.tup a) .ttuple s = some true := (Eq.refl _).trans rfl
theorem l_isii : isiD (.int i) .tint s = some true := (Eq.refl _).trans rfl
theorem l_isiib : isiD (.int i) .tbool s = some false := (Eq.refl _).trans rfl
theorem l_isiis : isiD (.int i) .tstr s = some false := (Eq.refl _).trans rfl
theorem l_isiit : isiD (.int i) .ttuple s = some false := (Eq.refl _).trans rfl
theorem l_isbb : isiD (.bl c) .tbool s = some true := (Eq.refl _).trans rfl
theorem l_isbt : isiD (.bl c) .ttuple s = some false := (Eq.refl _).trans rfl
theorem l_newLf : newL false a s = if a.length ≤ lim then some (.lst a, s) else none := (Eq.refl _).trans rfl
theorem l_newLt : newL true a s = if a.length ≤ lim then some (.ref s.length, s ++ [.lst a]) else none := (Eq.refl _).trans rfl
theorem l_newT : newT a s = if a.length ≤ lim then some (.tup a, s) else none := (Eq.refl _).trans rfl
theorem l_slct {lo hi : Option Int} : slcD mu (.tup a) lo hi s = some (.tup (cutD a lo hi), s) := (Eq.refl _).trans rfl
theorem l_slcl {lo hi : Option Int} : slcD mu (.lst a) lo hi s = newL mu (cutD a lo hi) s := (Eq.refl _).trans rfl
theorem l_slcr {lo hi : Option Int} : slcD mu (.rol a) lo hi s = newL mu (cutD a lo hi) s := (Eq.refl _).trans rfl
theorem l_nm {k : Nat} {env : Env} : asgT (.nm k) d env = some (env.set k (some d)) := (Eq.refl _).trans rfl
theorem l_tp2 {k l : Nat} {env : Env} : asgT (.tp 2 [.nm k, .nm l]) (.tup [d, e]) env = some ((env.set k (some d)).set l (some e)) := (Eq.refl _).trans rfl
theorem ixD_ok {n : Nat} {i : Int} (h : 0 ≤ i) (h2 : i < n) : ixD n i = some i.toNat := by
  unfold ixD
  rw [if_pos h, if_pos h2]
end
/-- the flow of a law: five items -/
def fl5 (a b c d : Int) (cells : List Int) : List D := [.int a, .int b, .int c, .int d, .lst (cells.map D.int)]
def Flw (fl : List D) : Prop := ∃ a b c d cells, fl = fl5 a b c d cells ∧ 0 ≤ a ∧ 0 ≤ b ∧ 0 ≤ c ∧ 0 ≤ d ∧ 0 < cells.length ∧ cells.length ≤ 64 ∧ ∀ x ∈ cells, 0 ≤ x
theorem lows_ints (n : Nat) : ∀ l : List Int, lows n (l.map D.int) = true
  | [] => rfl
  | i :: l => by
    show (low n (.int i) && lows n (l.map D.int)) = true
    rw [lows_ints n l]
    rfl
theorem low_fl {n : Nat} {fl : List D} (h : Flw fl) : lows n fl = true := by
  obtain ⟨a, b, c, d, cells, rfl, _⟩ := h
  simp [fl5, lows, low, lows_ints]
theorem take_app {fl : List D} {rest ex : S} {k : Nat} (hk : k = rest.length + 1) : (C.lst fl :: (rest ++ ex)).take k = .lst fl :: rest := by
  subst hk
  simp
/-- the end of a def that draws -/
theorem fin_fl {fl fl' : List D} {rest ex : S} {d : D} {Q : D → S → Prop} (h : Flw fl') (hd : pur d = true) (q : Q d (.lst fl' :: rest)) : Wp (fin false (.lst fl :: rest) d (.lst fl' :: (rest ++ ex))) Q := by
  refine fin_wp hd (fun j hj => ?_) ?_
  · cases j with
    | zero => exact .inr ⟨_, rfl, low_fl h⟩
    | succ j =>
      refine .inl ?_
      have hj : j < rest.length := by simpa using hj
      simp [List.getElem?_append_left hj]
  · rw [take_app (by simp)]
    exact q
theorem fin_fl0 {fl fl' : List D} {rest : S} {d : D} {Q : D → S → Prop} (h : Flw fl') (hd : pur d = true) (q : Q d (.lst fl' :: rest)) : Wp (fin false (.lst fl :: rest) d (.lst fl' :: rest)) Q := by
  have z := fin_fl (fl := fl) (rest := rest) (ex := []) h hd q
  rw [List.append_nil] at z
  exact z
theorem fin_same {s : S} {d : D} {Q : D → S → Prop} (hd : pur d = true) (q : Q d s) : Wp (fin false s d s) Q :=
  fin_wp hd (fun j _ => .inl rfl) (by rw [List.take_length]; exact q)
theorem fin_ext {s ex : S} {d : D} {Q : D → S → Prop} (hd : pur d = true) (q : Q d s) : Wp (fin false s d (s ++ ex)) Q :=
  fin_wp hd (fun j hj => .inl (List.getElem?_append_left hj)) (by rw [List.take_left]; exact q)
theorem fin_keep' {s s' : S} {d : D} : fin true s d s' = some (d, s') := by
  unfold fin
  rw [if_pos rfl]
/-- what a shut list is -/
theorem fin_shut {s ex : S} {xs : List D} {k : Nat} {Q : D → S → Prop} (hk : s.length ≤ k) (he : (s ++ ex)[k]? = some (.lst xs)) (hd : purs xs = true) (q : Q (.lst xs) s) : Wp (fin false s (.ref k) (s ++ ex)) Q := by
  have e : shut s.length (s ++ ex) (.ref k) = .lst xs := by
    unfold shut
    dsimp only
    rw [if_pos hk, he]
  unfold fin
  rw [if_neg Bool.false_ne_true, e, if_pos ⟨lows_pur _ xs hd, fun j hj => .inl (List.getElem?_append_left hj)⟩, List.take_left]
  exact q
end Kp

/-! Ky, part C: the draws that many laws share. Own work. -/
namespace Kp
open PySem
/-- the draw of a number below m: its second half -/
def gD2 (last : E) : Ss := (
  .cons (.ifs (.cmp .gt (.idx (.var 0) (.con (.int 1))) (.con (.int 0))) (
    .cons (.asg (.nm 3) (.bin .mod (.bi .int false (.cons (.idx (.var 0) (.con (.int 0))) .nil)) (.var 1))) (
    .cons (.sset (.var 0) (.con (.int 0)) (.bin .fdiv (.idx (.var 0) (.con (.int 0))) (.var 1))) (
    .cons (.sset (.var 0) (.con (.int 1)) (.bin (.mul false) (.bin .sub (.idx (.var 0) (.con (.int 1))) (.con (.int 1))) (.bi .int false (.cons (.cmp .gt (.idx (.var 0) (.con (.int 0))) (.con (.int 0))) .nil)))) (
    .cons (.ret (.var 3)) .nil)))) .nil) (
  .cons (.asg (.nm 4) (.idx (.var 2) (.bin .mod (.bi .int false (.cons (.idx (.var 0) (.con (.int 3))) .nil)) (.bi .len false (.cons (.var 2) .nil))))) (
  .cons (.sset (.var 0) (.con (.int 2)) (.bin (.add false) (.idx (.var 0) (.con (.int 2))) (.bi .int false (.cons (.cmp .lt (.idx (.var 2) (.bi .min2 false (.cons (.idx (.var 0) (.con (.int 2))) (.cons (.bin .sub (.bi .len false (.cons (.var 2) .nil)) (.con (.int 1))) .nil)))) (.bin .pow (.con (.int 10)) (.con (.int 18)))) .nil)))) (
  .cons (.asg (.nm 5) (.bin .mod (.bi .int false (.cons (.bin (.add false) (.bin (.add false) (.bin (.mul false) (.var 4) (.con (.int 48271))) (.bin (.mul false) (.idx (.var 0) (.con (.int 3))) (.con (.int 69621)))) (.con (.int 5))) .nil)) (.con (.int 2147483647)))) (
  .cons (.asg (.nm 6) (.bin .mod (.bi .int false (.cons (.bin (.add false) (.bin (.mul false) (.var 5) (.var 5)) (.bin (.mul false) (.idx (.var 0) (.con (.int 3))) (.con (.int 40692)))) .nil)) (.con (.int 2147483399)))) (
  .cons (.ret (.bin .mod last (.var 1))) .nil))))))
def gD1 (k : Ss) : Ss := (
  .cons (.sset (.var 0) (.con (.int 3)) (.bin (.add false) (.idx (.var 0) (.con (.int 3))) (.con (.int 1)))) (
  .cons (.asg (.nm 2) (.idx (.var 0) (.con (.int 4)))) (
  .cons (.ifs (.and (.cons (.cmp .eq (.idx (.var 0) (.con (.int 1))) (.con (.int 0))) (.cons (.cmp .eq (.bin .mod (.bi .int false (.cons (.idx (.var 2) (.con (.int 0))) .nil)) (.con (.int 2))) (.con (.int 0))) (.cons (.cmp .lt (.idx (.var 0) (.con (.int 2))) (.bi .len false (.cons (.var 2) .nil))) (.cons (.cmp .ge (.idx (.var 2) (.idx (.var 0) (.con (.int 2)))) (.bin .pow (.con (.int 10)) (.con (.int 18)))) .nil))))) (
    .cons (.sset (.var 0) (.con (.int 0)) (.bin .fdiv (.idx (.var 2) (.idx (.var 0) (.con (.int 2)))) (.con (.int 2)))) (
    .cons (.sset (.var 0) (.con (.int 1)) (.con (.int 60))) (
    .cons (.sset (.var 0) (.con (.int 2)) (.bin (.add false) (.idx (.var 0) (.con (.int 2))) (.con (.int 1)))) .nil))) .nil) k)))
/-- two ways of writing the last step -/
def gLa : E := .bin .fdiv (.bin .mod (.bi .int false (.cons (.bin (.add false) (.bin (.mul false) (.var 6) (.var 6)) (.var 5)) .nil)) (.con (.int 2147483647))) (.con (.int 8))
def gLb : E := .bi .int false (.cons (.bin .fdiv (.bin .mod (.bi .int false (.cons (.bin (.add false) (.bin (.mul false) (.var 6) (.var 6)) (.var 5)) .nil)) (.con (.int 2147483647))) (.con (.int 8))) .nil)
def gDraw : Fn := ⟨2, 7, gD1 (gD2 gLa), false⟩
def gDraw2 : Fn := ⟨2, 7, gD1 (gD2 gLb), false⟩
theorem cell_c {cells : List Int} {i : Int} (h0 : 0 ≤ i) (h1 : i < cells.length) : ∃ z, z ∈ cells ∧ (ixD (cells.map D.int).length i).bind (fun j => (cells.map D.int)[j]?) = some (.int z) := by
  have h : i.toNat < cells.length := by omega
  refine ⟨cells[i.toNat], List.getElem_mem h, ?_⟩
  rw [List.length_map, ixD_ok h0 h1]
  show (cells.map D.int)[i.toNat]? = _
  rw [List.getElem?_map, List.getElem?_eq_getElem h]
  rfl
theorem ix50 : ixD 5 0 = some 0 := rfl
theorem ix51 : ixD 5 1 = some 1 := rfl
theorem ix52 : ixD 5 2 = some 2 := rfl
theorem ix53 : ixD 5 3 = some 3 := rfl
theorem ix54 : ixD 5 4 = some 4 := rfl
section
variable {G : List D} {Ps : List Fn} {n f : Nat} {m : Int} {rest : S} {Q : D → S → Prop}
theorem gD2_wp {last : E} (hlast : last = gLa ∨ last = gLb) {a b c d : Int} {cells : List Int} {K : Fl → Env → S → Prop} (ha : 0 ≤ a) (hb : 0 ≤ b) (hc : 0 ≤ c) (hd : 0 ≤ d) (hl : 0 < cells.length) (hl2 : cells.length ≤ 64) (h0 : 0 < m) (h1 : m < 1073741824) (hall : ∀ x ∈ cells, 0 ≤ x)
    (k : ∀ r e a b c, 0 ≤ r → r < m → 0 ≤ a → 0 ≤ b → 0 ≤ c → K (.rt (.int r)) e (.lst (fl5 a b c d cells) :: rest)) :
    Wx (exs G (calls G Ps n) (gD2 last) [some (.ref 0), some (.int m), some (.lst (cells.map D.int)), none, none, none, none] (.lst (fl5 a b c d cells) :: rest)) K := by
  have hm : (0 : Int) < cells.length := by omega
  obtain ⟨z1, hz1, e1⟩ := cell_c (cells := cells) (i := d % (cells.length : Int)) (Int.emod_nonneg _ (by omega)) (Int.emod_lt_of_pos _ hm)
  obtain ⟨z2, hz2, e2⟩ := cell_c (cells := cells) (i := if (cells.length : Int) - 1 < c then (cells.length : Int) - 1 else c) (by split <;> omega) (by split <;> omega)
  rw [List.length_map] at e1 e2
  have sm : ∀ i j : Int, -18446744073709551616 < j ∧ j < 18446744073709551616 → (smallI i || smallI j) = true := fun i j h => by
    have : smallI j = true := by unfold smallI; exact decide_eq_true (by omega)
    rw [this, Bool.or_true]
  by_cases hp : 0 < b
  · have ht : decide (0 < b) = true := decide_eq_true hp
    have s1 : (smallI (b - 1) || smallI (if decide (0 < a / m) = true then 1 else 0)) = true := sm _ _ (by split <;> decide)
    simp only [gD2, fl5, ↓wv_var, ↓wv_con, ↓wv_glo, ↓wv_bin, ↓wv_neg, ↓wv_not, ↓wv_and, ↓wv_or, ↓wv_and1, ↓wv_andc, ↓wv_or1, ↓wv_orc, ↓wv_cmp, ↓wv_chn, ↓wv_ite, ↓wv_idx, ↓wv_slc, ↓wo_none, ↓wo_some, ↓wv_tup, ↓wv_lst, ↓wv_dnew, ↓wv_bi, ↓wv_rgl, ↓wv_mt, ↓wv_isi, ↓wv_isn, ↓wv_ntn, ↓ws_nil, ↓ws_cons, ↓wv_call, ↓wv_callk, ↓wv_lc, ↓wv_gx, ↓wp_stp, ↓wtt_nil, ↓wtt_cons, ↓wi_seq, ↓wi_rng, ↓wi_rng2, ↓Wr_int, ↓Wr2_int, ↓wx_nil, ↓seq_nx, ↓seq_rt, ↓seq_bk, ↓seq_ct, ↓wx_cons, ↓wx_asg, ↓wx_asgLc, ↓wx_par, ↓wx_sset, ↓wx_aug, ↓wx_exp, ↓wx_ret, ↓wx_retn, ↓wx_ifs, ↓wx_trn, ↓wx_fr, ↓wx_brk, ↓wx_cnt, ↓wx_pas, ↓Wp_some, ↓Wp_none, ↓Wo_some, ↓Wo_none, ↓Wx_some, ↓Wx_none, ↓Wv_some, ↓Wt_true, ↓Wt_false, ↓Wt_none, ↓Wp_bd, ↓Wp_map, ↓Wp_bind, ↓Wo_map, ↓Wo_bind, ↓Wp_if, ↓Wo_if, l_addi, l_sub, l_muli, l_mod, l_fdiv, l_addt, l_addl, l_pow18, l_iadd, l_eqi, l_nei, l_lti, l_lei, l_gti, l_gei, l_eqb, l_ixt, l_ixl, l_ix0, l_set0, l_tbl, l_tint, l_ttup, l_tlst, l_tnon, l_inti, l_intb, l_abs, l_lenl, l_lent, l_min2, l_max2, l_listl, l_listt, l_tupl, l_tupt, l_sorted, l_rgl, l_rgt, l_src_t, l_src_l, l_src_r, l_isit, l_isii, l_isiib, l_isiis, l_isiit, l_isbb, l_isbt, l_newLf, l_newLt, l_newT, l_slct, l_slcl, l_slcr, l_nm, l_tp2, List.getElem?_cons_zero, List.getElem?_cons_succ, List.set_cons_zero, List.set_cons_succ, List.length_cons, List.length_nil, List.map_cons, List.map_nil, List.cons_append, List.nil_append, List.replicate_succ, List.replicate_zero, List.append_nil, wipeD, setAll, true_and, and_true, if_true, if_false, Bool.false_eq_true, ite_true, ite_false, Option.toList_some, Option.toList_none, reduceIte, Nat.reduceAdd, Nat.reduceSub, Nat.reduceLeDiff, Nat.reduceLT, Int.reduceAdd, Int.reduceSub, Bool.not_true, Bool.not_false, ne_eq, not_true_eq_false, not_false_eq_true, gt_iff_lt, ge_iff_le, ix50, ix51, ix52, ix53, ix54, ht, h0, h1, and_self, s1]
    refine k (a % m) _ (a / m) _ c (Int.emod_nonneg _ (by omega)) (Int.emod_lt_of_pos _ h0) (Int.ediv_nonneg ha (by omega)) ?_ hc
    split
    · omega
    · omega
  · have ht : decide (0 < b) = false := decide_eq_false hp
    have s2 : (smallI z1 || smallI 48271) = true := sm _ _ (by decide)
    have s3 : (smallI d || smallI 69621) = true := sm _ _ (by decide)
    have s4 : (smallI d || smallI 40692) = true := sm _ _ (by decide)
    have s5 : (smallI ((z1 * 48271 + d * 69621 + 5) % 2147483647) || smallI ((z1 * 48271 + d * 69621 + 5) % 2147483647)) = true := sm _ _ (by omega)
    have s6 : ∀ y : Int, (smallI (y % 2147483399) || smallI (y % 2147483399)) = true := fun y => sm _ _ (by omega)
    have q1 : (0 : Int) < 2147483647 := by decide
    have q2 : (0 : Int) < 2147483399 := by decide
    have q3 : (0 : Int) < 8 := by decide
    have q4 : (8 : Int) < 1073741824 := by decide
    have c' : 0 ≤ c + (if decide (z2 < 1000000000000000000) = true then 1 else 0) := by split <;> omega
    rcases hlast with rfl | rfl
    · simp only [gD2, gLa, fl5, ↓wv_var, ↓wv_con, ↓wv_glo, ↓wv_bin, ↓wv_neg, ↓wv_not, ↓wv_and, ↓wv_or, ↓wv_and1, ↓wv_andc, ↓wv_or1, ↓wv_orc, ↓wv_cmp, ↓wv_chn, ↓wv_ite, ↓wv_idx, ↓wv_slc, ↓wo_none, ↓wo_some, ↓wv_tup, ↓wv_lst, ↓wv_dnew, ↓wv_bi, ↓wv_rgl, ↓wv_mt, ↓wv_isi, ↓wv_isn, ↓wv_ntn, ↓ws_nil, ↓ws_cons, ↓wv_call, ↓wv_callk, ↓wv_lc, ↓wv_gx, ↓wp_stp, ↓wtt_nil, ↓wtt_cons, ↓wi_seq, ↓wi_rng, ↓wi_rng2, ↓Wr_int, ↓Wr2_int, ↓wx_nil, ↓seq_nx, ↓seq_rt, ↓seq_bk, ↓seq_ct, ↓wx_cons, ↓wx_asg, ↓wx_asgLc, ↓wx_par, ↓wx_sset, ↓wx_aug, ↓wx_exp, ↓wx_ret, ↓wx_retn, ↓wx_ifs, ↓wx_trn, ↓wx_fr, ↓wx_brk, ↓wx_cnt, ↓wx_pas, ↓Wp_some, ↓Wp_none, ↓Wo_some, ↓Wo_none, ↓Wx_some, ↓Wx_none, ↓Wv_some, ↓Wt_true, ↓Wt_false, ↓Wt_none, ↓Wp_bd, ↓Wp_map, ↓Wp_bind, ↓Wo_map, ↓Wo_bind, ↓Wp_if, ↓Wo_if, l_addi, l_sub, l_muli, l_mod, l_fdiv, l_addt, l_addl, l_pow18, l_iadd, l_eqi, l_nei, l_lti, l_lei, l_gti, l_gei, l_eqb, l_ixt, l_ixl, l_ix0, l_set0, l_tbl, l_tint, l_ttup, l_tlst, l_tnon, l_inti, l_intb, l_abs, l_lenl, l_lent, l_min2, l_max2, l_listl, l_listt, l_tupl, l_tupt, l_sorted, l_rgl, l_rgt, l_src_t, l_src_l, l_src_r, l_isit, l_isii, l_isiib, l_isiis, l_isiit, l_isbb, l_isbt, l_newLf, l_newLt, l_newT, l_slct, l_slcl, l_slcr, l_nm, l_tp2, List.getElem?_cons_zero, List.getElem?_cons_succ, List.set_cons_zero, List.set_cons_succ, List.length_cons, List.length_nil, List.map_cons, List.map_nil, List.cons_append, List.nil_append, List.replicate_succ, List.replicate_zero, List.append_nil, wipeD, setAll, true_and, and_true, if_true, if_false, Bool.false_eq_true, ite_true, ite_false, Option.toList_some, Option.toList_none, reduceIte, Nat.reduceAdd, Nat.reduceSub, Nat.reduceLeDiff, Nat.reduceLT, Int.reduceAdd, Int.reduceSub, Bool.not_true, Bool.not_false, ne_eq, not_true_eq_false, not_false_eq_true, gt_iff_lt, ge_iff_le, ix50, ix51, ix52, ix53, ix54, ht, h0, h1, List.length_map, hm, e1, e2, s2, s3, s4, s5, s6, q1, q2, q3, q4, and_self]
      exact k _ _ a b _ (Int.emod_nonneg _ (by omega)) (Int.emod_lt_of_pos _ h0) ha hb c'
    · simp only [gD2, gLb, fl5, ↓wv_var, ↓wv_con, ↓wv_glo, ↓wv_bin, ↓wv_neg, ↓wv_not, ↓wv_and, ↓wv_or, ↓wv_and1, ↓wv_andc, ↓wv_or1, ↓wv_orc, ↓wv_cmp, ↓wv_chn, ↓wv_ite, ↓wv_idx, ↓wv_slc, ↓wo_none, ↓wo_some, ↓wv_tup, ↓wv_lst, ↓wv_dnew, ↓wv_bi, ↓wv_rgl, ↓wv_mt, ↓wv_isi, ↓wv_isn, ↓wv_ntn, ↓ws_nil, ↓ws_cons, ↓wv_call, ↓wv_callk, ↓wv_lc, ↓wv_gx, ↓wp_stp, ↓wtt_nil, ↓wtt_cons, ↓wi_seq, ↓wi_rng, ↓wi_rng2, ↓Wr_int, ↓Wr2_int, ↓wx_nil, ↓seq_nx, ↓seq_rt, ↓seq_bk, ↓seq_ct, ↓wx_cons, ↓wx_asg, ↓wx_asgLc, ↓wx_par, ↓wx_sset, ↓wx_aug, ↓wx_exp, ↓wx_ret, ↓wx_retn, ↓wx_ifs, ↓wx_trn, ↓wx_fr, ↓wx_brk, ↓wx_cnt, ↓wx_pas, ↓Wp_some, ↓Wp_none, ↓Wo_some, ↓Wo_none, ↓Wx_some, ↓Wx_none, ↓Wv_some, ↓Wt_true, ↓Wt_false, ↓Wt_none, ↓Wp_bd, ↓Wp_map, ↓Wp_bind, ↓Wo_map, ↓Wo_bind, ↓Wp_if, ↓Wo_if, l_addi, l_sub, l_muli, l_mod, l_fdiv, l_addt, l_addl, l_pow18, l_iadd, l_eqi, l_nei, l_lti, l_lei, l_gti, l_gei, l_eqb, l_ixt, l_ixl, l_ix0, l_set0, l_tbl, l_tint, l_ttup, l_tlst, l_tnon, l_inti, l_intb, l_abs, l_lenl, l_lent, l_min2, l_max2, l_listl, l_listt, l_tupl, l_tupt, l_sorted, l_rgl, l_rgt, l_src_t, l_src_l, l_src_r, l_isit, l_isii, l_isiib, l_isiis, l_isiit, l_isbb, l_isbt, l_newLf, l_newLt, l_newT, l_slct, l_slcl, l_slcr, l_nm, l_tp2, List.getElem?_cons_zero, List.getElem?_cons_succ, List.set_cons_zero, List.set_cons_succ, List.length_cons, List.length_nil, List.map_cons, List.map_nil, List.cons_append, List.nil_append, List.replicate_succ, List.replicate_zero, List.append_nil, wipeD, setAll, true_and, and_true, if_true, if_false, Bool.false_eq_true, ite_true, ite_false, Option.toList_some, Option.toList_none, reduceIte, Nat.reduceAdd, Nat.reduceSub, Nat.reduceLeDiff, Nat.reduceLT, Int.reduceAdd, Int.reduceSub, Bool.not_true, Bool.not_false, ne_eq, not_true_eq_false, not_false_eq_true, gt_iff_lt, ge_iff_le, ix50, ix51, ix52, ix53, ix54, ht, h0, h1, List.length_map, hm, e1, e2, s2, s3, s4, s5, s6, q1, q2, q3, q4, and_self]
      exact k _ _ a b _ (Int.emod_nonneg _ (by omega)) (Int.emod_lt_of_pos _ h0) ha hb c'
theorem draw_gen {last : E} (hlast : last = gLa ∨ last = gLb) (hP : Ps[f]? = some ⟨2, 7, gD1 (gD2 last), false⟩) {fl : List D} (hf : Flw fl) (h0 : 0 < m) (h1 : m < 1073741824) (k : ∀ r fl', 0 ≤ r → r < m → Flw fl' → Q (.int r) (.lst fl' :: rest)) : Wp (R G Ps n f [.ref 0, .int m] (.lst fl :: rest)) Q := by
  obtain ⟨a, b, c, d, cells, rfl, ha, hb, hc, hd, hl, hl2, hall⟩ := hf
  refine R_wp hP rfl ?_
  have tail : ∀ {a b c : Int}, 0 ≤ a → 0 ≤ b → 0 ≤ c → Wx (exs G (calls G Ps n) (gD2 last) [some (.ref 0), some (.int m), some (.lst (cells.map D.int)), none, none, none, none] (.lst (fl5 a b c (d + 1) cells) :: rest)) fun fl _ s' => match fl with
      | .rt r => Wp (fin false (.lst (fl5 a b c d cells) :: rest) r s') Q
      | .nx => Wp (fin false (.lst (fl5 a b c d cells) :: rest) .non s') Q
      | _ => False := fun ha hb hc => by
    refine gD2_wp hlast ha hb hc (by omega) hl hl2 h0 h1 hall fun r e a b c r0 r1 ha hb hc => ?_
    have hF : Flw (fl5 a b c (d + 1) cells) := ⟨a, b, c, d + 1, cells, rfl, ha, hb, hc, by omega, hl, hl2, hall⟩
    exact fin_fl0 hF rfl (k r _ r0 r1 hF)
  have tail2 : ∀ {a b c : Int} {fl0 : List D}, 0 ≤ a → 0 ≤ b → 0 ≤ c → Wx (exs G (calls G Ps n) (gD2 last) [some (.ref 0), some (.int m), some (.lst (cells.map D.int)), none, none, none, none] (.lst (fl5 a b c (d + 1) cells) :: rest)) fun fl _ s' => match fl with
      | .rt r => Wp (fin false (.lst fl0 :: rest) r s') Q
      | .nx => Wp (fin false (.lst fl0 :: rest) .non s') Q
      | _ => False := fun ha hb hc => by
    refine gD2_wp hlast ha hb hc (by omega) hl hl2 h0 h1 hall fun r e a b c r0 r1 ha hb hc => ?_
    have hF : Flw (fl5 a b c (d + 1) cells) := ⟨a, b, c, d + 1, cells, rfl, ha, hb, hc, by omega, hl, hl2, hall⟩
    exact fin_fl0 hF rfl (k r _ r0 r1 hF)
  simp only [gD1, fl5, ↓wv_var, ↓wv_con, ↓wv_glo, ↓wv_bin, ↓wv_neg, ↓wv_not, ↓wv_and, ↓wv_or, ↓wv_and1, ↓wv_andc, ↓wv_or1, ↓wv_orc, ↓wv_cmp, ↓wv_chn, ↓wv_ite, ↓wv_idx, ↓wv_slc, ↓wo_none, ↓wo_some, ↓wv_tup, ↓wv_lst, ↓wv_dnew, ↓wv_bi, ↓wv_rgl, ↓wv_mt, ↓wv_isi, ↓wv_isn, ↓wv_ntn, ↓ws_nil, ↓ws_cons, ↓wv_call, ↓wv_callk, ↓wv_lc, ↓wv_gx, ↓wp_stp, ↓wtt_nil, ↓wtt_cons, ↓wi_seq, ↓wi_rng, ↓wi_rng2, ↓Wr_int, ↓Wr2_int, ↓wx_nil, ↓seq_nx, ↓seq_rt, ↓seq_bk, ↓seq_ct, ↓wx_cons, ↓wx_asg, ↓wx_asgLc, ↓wx_par, ↓wx_sset, ↓wx_aug, ↓wx_exp, ↓wx_ret, ↓wx_retn, ↓wx_ifs, ↓wx_trn, ↓wx_fr, ↓wx_brk, ↓wx_cnt, ↓wx_pas, ↓Wp_some, ↓Wp_none, ↓Wo_some, ↓Wo_none, ↓Wx_some, ↓Wx_none, ↓Wv_some, ↓Wt_true, ↓Wt_false, ↓Wt_none, ↓Wp_bd, ↓Wp_map, ↓Wp_bind, ↓Wo_map, ↓Wo_bind, ↓Wp_if, ↓Wo_if, l_addi, l_sub, l_muli, l_mod, l_fdiv, l_addt, l_addl, l_pow18, l_iadd, l_eqi, l_nei, l_lti, l_lei, l_gti, l_gei, l_eqb, l_ixt, l_ixl, l_ix0, l_set0, l_tbl, l_tint, l_ttup, l_tlst, l_tnon, l_inti, l_intb, l_abs, l_lenl, l_lent, l_min2, l_max2, l_listl, l_listt, l_tupl, l_tupt, l_sorted, l_rgl, l_rgt, l_src_t, l_src_l, l_src_r, l_isit, l_isii, l_isiib, l_isiis, l_isiit, l_isbb, l_isbt, l_newLf, l_newLt, l_newT, l_slct, l_slcl, l_slcr, l_nm, l_tp2, List.getElem?_cons_zero, List.getElem?_cons_succ, List.set_cons_zero, List.set_cons_succ, List.length_cons, List.length_nil, List.map_cons, List.map_nil, List.cons_append, List.nil_append, List.replicate_succ, List.replicate_zero, List.append_nil, wipeD, setAll, true_and, and_true, if_true, if_false, Bool.false_eq_true, ite_true, ite_false, Option.toList_some, Option.toList_none, reduceIte, Nat.reduceAdd, Nat.reduceSub, Nat.reduceLeDiff, Nat.reduceLT, Int.reduceAdd, Int.reduceSub, Bool.not_true, Bool.not_false, ne_eq, not_true_eq_false, not_false_eq_true, gt_iff_lt, ge_iff_le, ix50, ix51, ix52, ix53, ix54]
  refine Wt_some (fun h1 => ?_) fun h1 => ?_
  · obtain ⟨z, hz, e⟩ := cell_c (cells := cells) (i := 0) (by omega) (by omega)
    rw [List.length_map] at e
    have q2 : (0 : Int) < 2 := by decide
    have q3 : (2 : Int) < 1073741824 := by decide
    simp only [↓wv_var, ↓wv_con, ↓wv_glo, ↓wv_bin, ↓wv_neg, ↓wv_not, ↓wv_and, ↓wv_or, ↓wv_and1, ↓wv_andc, ↓wv_or1, ↓wv_orc, ↓wv_cmp, ↓wv_chn, ↓wv_ite, ↓wv_idx, ↓wv_slc, ↓wo_none, ↓wo_some, ↓wv_tup, ↓wv_lst, ↓wv_dnew, ↓wv_bi, ↓wv_rgl, ↓wv_mt, ↓wv_isi, ↓wv_isn, ↓wv_ntn, ↓ws_nil, ↓ws_cons, ↓wv_call, ↓wv_callk, ↓wv_lc, ↓wv_gx, ↓wp_stp, ↓wtt_nil, ↓wtt_cons, ↓wi_seq, ↓wi_rng, ↓wi_rng2, ↓Wr_int, ↓Wr2_int, ↓wx_nil, ↓seq_nx, ↓seq_rt, ↓seq_bk, ↓seq_ct, ↓wx_cons, ↓wx_asg, ↓wx_asgLc, ↓wx_par, ↓wx_sset, ↓wx_aug, ↓wx_exp, ↓wx_ret, ↓wx_retn, ↓wx_ifs, ↓wx_trn, ↓wx_fr, ↓wx_brk, ↓wx_cnt, ↓wx_pas, ↓Wp_some, ↓Wp_none, ↓Wo_some, ↓Wo_none, ↓Wx_some, ↓Wx_none, ↓Wv_some, ↓Wt_true, ↓Wt_false, ↓Wt_none, ↓Wp_bd, ↓Wp_map, ↓Wp_bind, ↓Wo_map, ↓Wo_bind, ↓Wp_if, ↓Wo_if, l_addi, l_sub, l_muli, l_mod, l_fdiv, l_addt, l_addl, l_pow18, l_iadd, l_eqi, l_nei, l_lti, l_lei, l_gti, l_gei, l_eqb, l_ixt, l_ixl, l_ix0, l_set0, l_tbl, l_tint, l_ttup, l_tlst, l_tnon, l_inti, l_intb, l_abs, l_lenl, l_lent, l_min2, l_max2, l_listl, l_listt, l_tupl, l_tupt, l_sorted, l_rgl, l_rgt, l_src_t, l_src_l, l_src_r, l_isit, l_isii, l_isiib, l_isiis, l_isiit, l_isbb, l_isbt, l_newLf, l_newLt, l_newT, l_slct, l_slcl, l_slcr, l_nm, l_tp2, List.getElem?_cons_zero, List.getElem?_cons_succ, List.set_cons_zero, List.set_cons_succ, List.length_cons, List.length_nil, List.map_cons, List.map_nil, List.cons_append, List.nil_append, List.replicate_succ, List.replicate_zero, List.append_nil, wipeD, setAll, true_and, and_true, if_true, if_false, Bool.false_eq_true, ite_true, ite_false, Option.toList_some, Option.toList_none, reduceIte, Nat.reduceAdd, Nat.reduceSub, Nat.reduceLeDiff, Nat.reduceLT, Int.reduceAdd, Int.reduceSub, Bool.not_true, Bool.not_false, ne_eq, not_true_eq_false, not_false_eq_true, gt_iff_lt, ge_iff_le, List.length_map, e, q2]
    refine Wt_some (fun h2 => ?_) fun h2 => ?_
    · simp only [↓wv_var, ↓wv_con, ↓wv_glo, ↓wv_bin, ↓wv_neg, ↓wv_not, ↓wv_and, ↓wv_or, ↓wv_and1, ↓wv_andc, ↓wv_or1, ↓wv_orc, ↓wv_cmp, ↓wv_chn, ↓wv_ite, ↓wv_idx, ↓wv_slc, ↓wo_none, ↓wo_some, ↓wv_tup, ↓wv_lst, ↓wv_dnew, ↓wv_bi, ↓wv_rgl, ↓wv_mt, ↓wv_isi, ↓wv_isn, ↓wv_ntn, ↓ws_nil, ↓ws_cons, ↓wv_call, ↓wv_callk, ↓wv_lc, ↓wv_gx, ↓wp_stp, ↓wtt_nil, ↓wtt_cons, ↓wi_seq, ↓wi_rng, ↓wi_rng2, ↓Wr_int, ↓Wr2_int, ↓wx_nil, ↓seq_nx, ↓seq_rt, ↓seq_bk, ↓seq_ct, ↓wx_cons, ↓wx_asg, ↓wx_asgLc, ↓wx_par, ↓wx_sset, ↓wx_aug, ↓wx_exp, ↓wx_ret, ↓wx_retn, ↓wx_ifs, ↓wx_trn, ↓wx_fr, ↓wx_brk, ↓wx_cnt, ↓wx_pas, ↓Wp_some, ↓Wp_none, ↓Wo_some, ↓Wo_none, ↓Wx_some, ↓Wx_none, ↓Wv_some, ↓Wt_true, ↓Wt_false, ↓Wt_none, ↓Wp_bd, ↓Wp_map, ↓Wp_bind, ↓Wo_map, ↓Wo_bind, ↓Wp_if, ↓Wo_if, l_addi, l_sub, l_muli, l_mod, l_fdiv, l_addt, l_addl, l_pow18, l_iadd, l_eqi, l_nei, l_lti, l_lei, l_gti, l_gei, l_eqb, l_ixt, l_ixl, l_ix0, l_set0, l_tbl, l_tint, l_ttup, l_tlst, l_tnon, l_inti, l_intb, l_abs, l_lenl, l_lent, l_min2, l_max2, l_listl, l_listt, l_tupl, l_tupt, l_sorted, l_rgl, l_rgt, l_src_t, l_src_l, l_src_r, l_isit, l_isii, l_isiib, l_isiis, l_isiit, l_isbb, l_isbt, l_newLf, l_newLt, l_newT, l_slct, l_slcl, l_slcr, l_nm, l_tp2, List.getElem?_cons_zero, List.getElem?_cons_succ, List.set_cons_zero, List.set_cons_succ, List.length_cons, List.length_nil, List.map_cons, List.map_nil, List.cons_append, List.nil_append, List.replicate_succ, List.replicate_zero, List.append_nil, wipeD, setAll, true_and, and_true, if_true, if_false, Bool.false_eq_true, ite_true, ite_false, Option.toList_some, Option.toList_none, reduceIte, Nat.reduceAdd, Nat.reduceSub, Nat.reduceLeDiff, Nat.reduceLT, Int.reduceAdd, Int.reduceSub, Bool.not_true, Bool.not_false, ne_eq, not_true_eq_false, not_false_eq_true, gt_iff_lt, ge_iff_le, ix50, ix51, ix52, ix53, ix54, List.length_map]
      refine Wt_some (fun h3 => ?_) fun h3 => ?_
      · have h3 : c < cells.length := of_decide_eq_true h3
        obtain ⟨z, hz, e⟩ := cell_c (cells := cells) (i := c) hc h3
        rw [List.length_map] at e
        simp only [↓wv_var, ↓wv_con, ↓wv_glo, ↓wv_bin, ↓wv_neg, ↓wv_not, ↓wv_and, ↓wv_or, ↓wv_and1, ↓wv_andc, ↓wv_or1, ↓wv_orc, ↓wv_cmp, ↓wv_chn, ↓wv_ite, ↓wv_idx, ↓wv_slc, ↓wo_none, ↓wo_some, ↓wv_tup, ↓wv_lst, ↓wv_dnew, ↓wv_bi, ↓wv_rgl, ↓wv_mt, ↓wv_isi, ↓wv_isn, ↓wv_ntn, ↓ws_nil, ↓ws_cons, ↓wv_call, ↓wv_callk, ↓wv_lc, ↓wv_gx, ↓wp_stp, ↓wtt_nil, ↓wtt_cons, ↓wi_seq, ↓wi_rng, ↓wi_rng2, ↓Wr_int, ↓Wr2_int, ↓wx_nil, ↓seq_nx, ↓seq_rt, ↓seq_bk, ↓seq_ct, ↓wx_cons, ↓wx_asg, ↓wx_asgLc, ↓wx_par, ↓wx_sset, ↓wx_aug, ↓wx_exp, ↓wx_ret, ↓wx_retn, ↓wx_ifs, ↓wx_trn, ↓wx_fr, ↓wx_brk, ↓wx_cnt, ↓wx_pas, ↓Wp_some, ↓Wp_none, ↓Wo_some, ↓Wo_none, ↓Wx_some, ↓Wx_none, ↓Wv_some, ↓Wt_true, ↓Wt_false, ↓Wt_none, ↓Wp_bd, ↓Wp_map, ↓Wp_bind, ↓Wo_map, ↓Wo_bind, ↓Wp_if, ↓Wo_if, l_addi, l_sub, l_muli, l_mod, l_fdiv, l_addt, l_addl, l_pow18, l_iadd, l_eqi, l_nei, l_lti, l_lei, l_gti, l_gei, l_eqb, l_ixt, l_ixl, l_ix0, l_set0, l_tbl, l_tint, l_ttup, l_tlst, l_tnon, l_inti, l_intb, l_abs, l_lenl, l_lent, l_min2, l_max2, l_listl, l_listt, l_tupl, l_tupt, l_sorted, l_rgl, l_rgt, l_src_t, l_src_l, l_src_r, l_isit, l_isii, l_isiib, l_isiis, l_isiit, l_isbb, l_isbt, l_newLf, l_newLt, l_newT, l_slct, l_slcl, l_slcr, l_nm, l_tp2, List.getElem?_cons_zero, List.getElem?_cons_succ, List.set_cons_zero, List.set_cons_succ, List.length_cons, List.length_nil, List.map_cons, List.map_nil, List.cons_append, List.nil_append, List.replicate_succ, List.replicate_zero, List.append_nil, wipeD, setAll, true_and, and_true, if_true, if_false, Bool.false_eq_true, ite_true, ite_false, Option.toList_some, Option.toList_none, reduceIte, Nat.reduceAdd, Nat.reduceSub, Nat.reduceLeDiff, Nat.reduceLT, Int.reduceAdd, Int.reduceSub, Bool.not_true, Bool.not_false, ne_eq, not_true_eq_false, not_false_eq_true, gt_iff_lt, ge_iff_le, ix50, ix51, ix52, ix53, ix54, List.length_map, e]
        refine Wt_some (fun h4 => ?_) fun h4 => ?_
        · simp only [↓wv_var, ↓wv_con, ↓wv_glo, ↓wv_bin, ↓wv_neg, ↓wv_not, ↓wv_and, ↓wv_or, ↓wv_and1, ↓wv_andc, ↓wv_or1, ↓wv_orc, ↓wv_cmp, ↓wv_chn, ↓wv_ite, ↓wv_idx, ↓wv_slc, ↓wo_none, ↓wo_some, ↓wv_tup, ↓wv_lst, ↓wv_dnew, ↓wv_bi, ↓wv_rgl, ↓wv_mt, ↓wv_isi, ↓wv_isn, ↓wv_ntn, ↓ws_nil, ↓ws_cons, ↓wv_call, ↓wv_callk, ↓wv_lc, ↓wv_gx, ↓wp_stp, ↓wtt_nil, ↓wtt_cons, ↓wi_seq, ↓wi_rng, ↓wi_rng2, ↓Wr_int, ↓Wr2_int, ↓wx_nil, ↓seq_nx, ↓seq_rt, ↓seq_bk, ↓seq_ct, ↓wx_cons, ↓wx_asg, ↓wx_asgLc, ↓wx_par, ↓wx_sset, ↓wx_aug, ↓wx_exp, ↓wx_ret, ↓wx_retn, ↓wx_ifs, ↓wx_trn, ↓wx_fr, ↓wx_brk, ↓wx_cnt, ↓wx_pas, ↓Wp_some, ↓Wp_none, ↓Wo_some, ↓Wo_none, ↓Wx_some, ↓Wx_none, ↓Wv_some, ↓Wt_true, ↓Wt_false, ↓Wt_none, ↓Wp_bd, ↓Wp_map, ↓Wp_bind, ↓Wo_map, ↓Wo_bind, ↓Wp_if, ↓Wo_if, l_addi, l_sub, l_muli, l_mod, l_fdiv, l_addt, l_addl, l_pow18, l_iadd, l_eqi, l_nei, l_lti, l_lei, l_gti, l_gei, l_eqb, l_ixt, l_ixl, l_ix0, l_set0, l_tbl, l_tint, l_ttup, l_tlst, l_tnon, l_inti, l_intb, l_abs, l_lenl, l_lent, l_min2, l_max2, l_listl, l_listt, l_tupl, l_tupt, l_sorted, l_rgl, l_rgt, l_src_t, l_src_l, l_src_r, l_isit, l_isii, l_isiib, l_isiis, l_isiit, l_isbb, l_isbt, l_newLf, l_newLt, l_newT, l_slct, l_slcl, l_slcr, l_nm, l_tp2, List.getElem?_cons_zero, List.getElem?_cons_succ, List.set_cons_zero, List.set_cons_succ, List.length_cons, List.length_nil, List.map_cons, List.map_nil, List.cons_append, List.nil_append, List.replicate_succ, List.replicate_zero, List.append_nil, wipeD, setAll, true_and, and_true, if_true, if_false, Bool.false_eq_true, ite_true, ite_false, Option.toList_some, Option.toList_none, reduceIte, Nat.reduceAdd, Nat.reduceSub, Nat.reduceLeDiff, Nat.reduceLT, Int.reduceAdd, Int.reduceSub, Bool.not_true, Bool.not_false, ne_eq, not_true_eq_false, not_false_eq_true, gt_iff_lt, ge_iff_le, ix50, ix51, ix52, ix53, ix54, List.length_map, e, q2, q3, and_self]
          exact tail2 (by have := hall z hz; omega) (by omega) (by omega)
        · exact tail2 ha hb hc
      · simp only [↓wv_var, ↓wv_con, ↓wv_glo, ↓wv_bin, ↓wv_neg, ↓wv_not, ↓wv_and, ↓wv_or, ↓wv_and1, ↓wv_andc, ↓wv_or1, ↓wv_orc, ↓wv_cmp, ↓wv_chn, ↓wv_ite, ↓wv_idx, ↓wv_slc, ↓wo_none, ↓wo_some, ↓wv_tup, ↓wv_lst, ↓wv_dnew, ↓wv_bi, ↓wv_rgl, ↓wv_mt, ↓wv_isi, ↓wv_isn, ↓wv_ntn, ↓ws_nil, ↓ws_cons, ↓wv_call, ↓wv_callk, ↓wv_lc, ↓wv_gx, ↓wp_stp, ↓wtt_nil, ↓wtt_cons, ↓wi_seq, ↓wi_rng, ↓wi_rng2, ↓Wr_int, ↓Wr2_int, ↓wx_nil, ↓seq_nx, ↓seq_rt, ↓seq_bk, ↓seq_ct, ↓wx_cons, ↓wx_asg, ↓wx_asgLc, ↓wx_par, ↓wx_sset, ↓wx_aug, ↓wx_exp, ↓wx_ret, ↓wx_retn, ↓wx_ifs, ↓wx_trn, ↓wx_fr, ↓wx_brk, ↓wx_cnt, ↓wx_pas, ↓Wp_some, ↓Wp_none, ↓Wo_some, ↓Wo_none, ↓Wx_some, ↓Wx_none, ↓Wv_some, ↓Wt_true, ↓Wt_false, ↓Wt_none, ↓Wp_bd, ↓Wp_map, ↓Wp_bind, ↓Wo_map, ↓Wo_bind, ↓Wp_if, ↓Wo_if, l_addi, l_sub, l_muli, l_mod, l_fdiv, l_addt, l_addl, l_pow18, l_iadd, l_eqi, l_nei, l_lti, l_lei, l_gti, l_gei, l_eqb, l_ixt, l_ixl, l_ix0, l_set0, l_tbl, l_tint, l_ttup, l_tlst, l_tnon, l_inti, l_intb, l_abs, l_lenl, l_lent, l_min2, l_max2, l_listl, l_listt, l_tupl, l_tupt, l_sorted, l_rgl, l_rgt, l_src_t, l_src_l, l_src_r, l_isit, l_isii, l_isiib, l_isiis, l_isiit, l_isbb, l_isbt, l_newLf, l_newLt, l_newT, l_slct, l_slcl, l_slcr, l_nm, l_tp2, List.getElem?_cons_zero, List.getElem?_cons_succ, List.set_cons_zero, List.set_cons_succ, List.length_cons, List.length_nil, List.map_cons, List.map_nil, List.cons_append, List.nil_append, List.replicate_succ, List.replicate_zero, List.append_nil, wipeD, setAll, true_and, and_true, if_true, if_false, Bool.false_eq_true, ite_true, ite_false, Option.toList_some, Option.toList_none, reduceIte, Nat.reduceAdd, Nat.reduceSub, Nat.reduceLeDiff, Nat.reduceLT, Int.reduceAdd, Int.reduceSub, Bool.not_true, Bool.not_false, ne_eq, not_true_eq_false, not_false_eq_true, gt_iff_lt, ge_iff_le, h3]
        exact tail2 ha hb hc
    · simp only [↓wv_var, ↓wv_con, ↓wv_glo, ↓wv_bin, ↓wv_neg, ↓wv_not, ↓wv_and, ↓wv_or, ↓wv_and1, ↓wv_andc, ↓wv_or1, ↓wv_orc, ↓wv_cmp, ↓wv_chn, ↓wv_ite, ↓wv_idx, ↓wv_slc, ↓wo_none, ↓wo_some, ↓wv_tup, ↓wv_lst, ↓wv_dnew, ↓wv_bi, ↓wv_rgl, ↓wv_mt, ↓wv_isi, ↓wv_isn, ↓wv_ntn, ↓ws_nil, ↓ws_cons, ↓wv_call, ↓wv_callk, ↓wv_lc, ↓wv_gx, ↓wp_stp, ↓wtt_nil, ↓wtt_cons, ↓wi_seq, ↓wi_rng, ↓wi_rng2, ↓Wr_int, ↓Wr2_int, ↓wx_nil, ↓seq_nx, ↓seq_rt, ↓seq_bk, ↓seq_ct, ↓wx_cons, ↓wx_asg, ↓wx_asgLc, ↓wx_par, ↓wx_sset, ↓wx_aug, ↓wx_exp, ↓wx_ret, ↓wx_retn, ↓wx_ifs, ↓wx_trn, ↓wx_fr, ↓wx_brk, ↓wx_cnt, ↓wx_pas, ↓Wp_some, ↓Wp_none, ↓Wo_some, ↓Wo_none, ↓Wx_some, ↓Wx_none, ↓Wv_some, ↓Wt_true, ↓Wt_false, ↓Wt_none, ↓Wp_bd, ↓Wp_map, ↓Wp_bind, ↓Wo_map, ↓Wo_bind, ↓Wp_if, ↓Wo_if, l_addi, l_sub, l_muli, l_mod, l_fdiv, l_addt, l_addl, l_pow18, l_iadd, l_eqi, l_nei, l_lti, l_lei, l_gti, l_gei, l_eqb, l_ixt, l_ixl, l_ix0, l_set0, l_tbl, l_tint, l_ttup, l_tlst, l_tnon, l_inti, l_intb, l_abs, l_lenl, l_lent, l_min2, l_max2, l_listl, l_listt, l_tupl, l_tupt, l_sorted, l_rgl, l_rgt, l_src_t, l_src_l, l_src_r, l_isit, l_isii, l_isiib, l_isiis, l_isiit, l_isbb, l_isbt, l_newLf, l_newLt, l_newT, l_slct, l_slcl, l_slcr, l_nm, l_tp2, List.getElem?_cons_zero, List.getElem?_cons_succ, List.set_cons_zero, List.set_cons_succ, List.length_cons, List.length_nil, List.map_cons, List.map_nil, List.cons_append, List.nil_append, List.replicate_succ, List.replicate_zero, List.append_nil, wipeD, setAll, true_and, and_true, if_true, if_false, Bool.false_eq_true, ite_true, ite_false, Option.toList_some, Option.toList_none, reduceIte, Nat.reduceAdd, Nat.reduceSub, Nat.reduceLeDiff, Nat.reduceLT, Int.reduceAdd, Int.reduceSub, Bool.not_true, Bool.not_false, ne_eq, not_true_eq_false, not_false_eq_true, gt_iff_lt, ge_iff_le, h2]
      exact tail2 ha hb hc
  · simp only [↓wv_var, ↓wv_con, ↓wv_glo, ↓wv_bin, ↓wv_neg, ↓wv_not, ↓wv_and, ↓wv_or, ↓wv_and1, ↓wv_andc, ↓wv_or1, ↓wv_orc, ↓wv_cmp, ↓wv_chn, ↓wv_ite, ↓wv_idx, ↓wv_slc, ↓wo_none, ↓wo_some, ↓wv_tup, ↓wv_lst, ↓wv_dnew, ↓wv_bi, ↓wv_rgl, ↓wv_mt, ↓wv_isi, ↓wv_isn, ↓wv_ntn, ↓ws_nil, ↓ws_cons, ↓wv_call, ↓wv_callk, ↓wv_lc, ↓wv_gx, ↓wp_stp, ↓wtt_nil, ↓wtt_cons, ↓wi_seq, ↓wi_rng, ↓wi_rng2, ↓Wr_int, ↓Wr2_int, ↓wx_nil, ↓seq_nx, ↓seq_rt, ↓seq_bk, ↓seq_ct, ↓wx_cons, ↓wx_asg, ↓wx_asgLc, ↓wx_par, ↓wx_sset, ↓wx_aug, ↓wx_exp, ↓wx_ret, ↓wx_retn, ↓wx_ifs, ↓wx_trn, ↓wx_fr, ↓wx_brk, ↓wx_cnt, ↓wx_pas, ↓Wp_some, ↓Wp_none, ↓Wo_some, ↓Wo_none, ↓Wx_some, ↓Wx_none, ↓Wv_some, ↓Wt_true, ↓Wt_false, ↓Wt_none, ↓Wp_bd, ↓Wp_map, ↓Wp_bind, ↓Wo_map, ↓Wo_bind, ↓Wp_if, ↓Wo_if, l_addi, l_sub, l_muli, l_mod, l_fdiv, l_addt, l_addl, l_pow18, l_iadd, l_eqi, l_nei, l_lti, l_lei, l_gti, l_gei, l_eqb, l_ixt, l_ixl, l_ix0, l_set0, l_tbl, l_tint, l_ttup, l_tlst, l_tnon, l_inti, l_intb, l_abs, l_lenl, l_lent, l_min2, l_max2, l_listl, l_listt, l_tupl, l_tupt, l_sorted, l_rgl, l_rgt, l_src_t, l_src_l, l_src_r, l_isit, l_isii, l_isiib, l_isiis, l_isiit, l_isbb, l_isbt, l_newLf, l_newLt, l_newT, l_slct, l_slcl, l_slcr, l_nm, l_tp2, List.getElem?_cons_zero, List.getElem?_cons_succ, List.set_cons_zero, List.set_cons_succ, List.length_cons, List.length_nil, List.map_cons, List.map_nil, List.cons_append, List.nil_append, List.replicate_succ, List.replicate_zero, List.append_nil, wipeD, setAll, true_and, and_true, if_true, if_false, Bool.false_eq_true, ite_true, ite_false, Option.toList_some, Option.toList_none, reduceIte, Nat.reduceAdd, Nat.reduceSub, Nat.reduceLeDiff, Nat.reduceLT, Int.reduceAdd, Int.reduceSub, Bool.not_true, Bool.not_false, ne_eq, not_true_eq_false, not_false_eq_true, gt_iff_lt, ge_iff_le, h1]
    exact tail2 ha hb hc
theorem draw_wp (hP : Ps[f]? = some gDraw) {fl : List D} (hf : Flw fl) (h0 : 0 < m) (h1 : m < 1073741824) (k : ∀ r fl', 0 ≤ r → r < m → Flw fl' → Q (.int r) (.lst fl' :: rest)) : Wp (R G Ps n f [.ref 0, .int m] (.lst fl :: rest)) Q := draw_gen (.inl rfl) hP hf h0 h1 k
theorem draw2_wp (hP : Ps[f]? = some gDraw2) {fl : List D} (hf : Flw fl) (h0 : 0 < m) (h1 : m < 1073741824) (k : ∀ r fl', 0 ≤ r → r < m → Flw fl' → Q (.int r) (.lst fl' :: rest)) : Wp (R G Ps n f [.ref 0, .int m] (.lst fl :: rest)) Q := draw_gen (.inr rfl) hP hf h0 h1 k
end
end Kp

/-! Ky, part D: picks, shuffles, samenesses that many laws share. Own work. -/
namespace Kp
open PySem
theorem purs_all : ∀ {ds : List D}, purs ds = true ↔ ∀ d ∈ ds, pur d = true
  | [] => ⟨fun _ d hd => (by cases hd), fun _ => rfl⟩
  | d :: ds => by
    show (pur d && purs ds) = true ↔ _
    rw [Bool.and_eq_true, purs_all]
    exact ⟨fun h x hx => (List.mem_cons.mp hx).elim (fun e => by rw [e]; exact h.1) (h.2 x), fun h => ⟨h d List.mem_cons_self, fun x hx => h x (List.mem_cons_of_mem _ hx)⟩⟩
section
variable {G : List D} {Ps : List Fn} {n f fd fs : Nat} {rest : S} {Q : D → S → Prop} {fl ds : List D}
/-- what draws -/
def IsDraw (Ps : List Fn) (fd : Nat) : Prop := Ps[fd]? = some gDraw ∨ Ps[fd]? = some gDraw2
theorem dr_wp (hd : IsDraw Ps fd) {m : Int} (hf : Flw fl) (h0 : 0 < m) (h1 : m < 1073741824) (k : ∀ r fl', 0 ≤ r → r < m → Flw fl' → Q (.int r) (.lst fl' :: rest)) : Wp (R G Ps n fd [.ref 0, .int m] (.lst fl :: rest)) Q := by
  rcases hd with h | h
  · exact draw_wp h hf h0 h1 k
  · exact draw2_wp h hf h0 h1 k
def gPick (fd : Nat) : Fn := ⟨2, 2, (.cons (.ret (.idx (.var 1) (.call fd (.cons (.var 0) (.cons (.bi .len false (.cons (.var 1) .nil)) .nil))))) .nil), false⟩
theorem pick_wp (hP : Ps[f]? = some (gPick fd)) (hd : IsDraw Ps fd) {x : D} (hx : x = .lst ds ∨ x = .tup ds) (hf : Flw fl) (hl : 0 < ds.length) (hl2 : ds.length ≤ lim) (hp : purs ds = true) (k : ∀ y fl', y ∈ ds → Flw fl' → Q y (.lst fl' :: rest)) : Wp (R G Ps (n + 1) f [.ref 0, x] (.lst fl :: rest)) Q := by
  refine R_wp hP rfl ?_
  have hl3 : ds.length ≤ 100000 := hl2
  have fin : ∀ r fl', 0 ≤ r → r < (ds.length : Int) → Flw fl' → ∃ y, y ∈ ds ∧ (ixD ds.length r).bind (fun j => ds[j]?) = some y := fun r fl' h0 h1 hf' => by
    have h : r.toNat < ds.length := by omega
    refine ⟨ds[r.toNat], List.getElem_mem h, ?_⟩
    rw [ixD_ok h0 h1]
    exact List.getElem?_eq_getElem h
  rcases hx with rfl | rfl
  · simp only [gPick, ↓wv_var, ↓wv_con, ↓wv_glo, ↓wv_bin, ↓wv_neg, ↓wv_not, ↓wv_and, ↓wv_or, ↓wv_and1, ↓wv_andc, ↓wv_or1, ↓wv_orc, ↓wv_cmp, ↓wv_chn, ↓wv_ite, ↓wv_idx, ↓wv_slc, ↓wo_none, ↓wo_some, ↓wv_tup, ↓wv_lst, ↓wv_dnew, ↓wv_bi, ↓wv_rgl, ↓wv_mt, ↓wv_isi, ↓wv_isn, ↓wv_ntn, ↓ws_nil, ↓ws_cons, ↓wv_call, ↓wv_callk, ↓wv_lc, ↓wv_gx, ↓wp_stp, ↓wtt_nil, ↓wtt_cons, ↓wi_seq, ↓wi_rng, ↓wi_rng2, ↓Wr_int, ↓Wr2_int, ↓wx_nil, ↓seq_nx, ↓seq_rt, ↓seq_bk, ↓seq_ct, ↓wx_cons, ↓wx_asg, ↓wx_asgLc, ↓wx_par, ↓wx_sset, ↓wx_aug, ↓wx_exp, ↓wx_ret, ↓wx_retn, ↓wx_ifs, ↓wx_trn, ↓wx_fr, ↓wx_brk, ↓wx_cnt, ↓wx_pas, ↓Wp_some, ↓Wp_none, ↓Wo_some, ↓Wo_none, ↓Wx_some, ↓Wx_none, ↓Wv_some, ↓Wt_true, ↓Wt_false, ↓Wt_none, ↓Wp_bd, ↓Wp_map, ↓Wp_bind, ↓Wo_map, ↓Wo_bind, ↓Wp_if, ↓Wo_if, l_addi, l_sub, l_muli, l_mod, l_fdiv, l_addt, l_addl, l_pow18, l_iadd, l_eqi, l_nei, l_lti, l_lei, l_gti, l_gei, l_eqb, l_ixt, l_ixl, l_ix0, l_set0, l_tbl, l_tint, l_ttup, l_tlst, l_tnon, l_inti, l_intb, l_abs, l_lenl, l_lent, l_min2, l_max2, l_listl, l_listt, l_tupl, l_tupt, l_sorted, l_rgl, l_rgt, l_src_t, l_src_l, l_src_r, l_isit, l_isii, l_isiib, l_isiis, l_isiit, l_isbb, l_isbt, l_newLf, l_newLt, l_newT, l_slct, l_slcl, l_slcr, l_nm, l_tp2, List.getElem?_cons_zero, List.getElem?_cons_succ, List.set_cons_zero, List.set_cons_succ, List.length_cons, List.length_nil, List.map_cons, List.map_nil, List.cons_append, List.nil_append, List.replicate_succ, List.replicate_zero, List.append_nil, wipeD, setAll, true_and, and_true, if_true, if_false, Bool.false_eq_true, ite_true, ite_false, Option.toList_some, Option.toList_none, reduceIte, Nat.reduceAdd, Nat.reduceSub, Nat.reduceLeDiff, Nat.reduceLT, Int.reduceAdd, Int.reduceSub, Bool.not_true, Bool.not_false, ne_eq, not_true_eq_false, not_false_eq_true, gt_iff_lt, ge_iff_le]
    refine dr_wp hd hf (by omega) (by omega) fun r fl' h0 h1 hf' => ?_
    obtain ⟨y, hy, e⟩ := fin r fl' h0 h1 hf'
    simp only [↓wv_var, ↓wv_con, ↓wv_glo, ↓wv_bin, ↓wv_neg, ↓wv_not, ↓wv_and, ↓wv_or, ↓wv_and1, ↓wv_andc, ↓wv_or1, ↓wv_orc, ↓wv_cmp, ↓wv_chn, ↓wv_ite, ↓wv_idx, ↓wv_slc, ↓wo_none, ↓wo_some, ↓wv_tup, ↓wv_lst, ↓wv_dnew, ↓wv_bi, ↓wv_rgl, ↓wv_mt, ↓wv_isi, ↓wv_isn, ↓wv_ntn, ↓ws_nil, ↓ws_cons, ↓wv_call, ↓wv_callk, ↓wv_lc, ↓wv_gx, ↓wp_stp, ↓wtt_nil, ↓wtt_cons, ↓wi_seq, ↓wi_rng, ↓wi_rng2, ↓Wr_int, ↓Wr2_int, ↓wx_nil, ↓seq_nx, ↓seq_rt, ↓seq_bk, ↓seq_ct, ↓wx_cons, ↓wx_asg, ↓wx_asgLc, ↓wx_par, ↓wx_sset, ↓wx_aug, ↓wx_exp, ↓wx_ret, ↓wx_retn, ↓wx_ifs, ↓wx_trn, ↓wx_fr, ↓wx_brk, ↓wx_cnt, ↓wx_pas, ↓Wp_some, ↓Wp_none, ↓Wo_some, ↓Wo_none, ↓Wx_some, ↓Wx_none, ↓Wv_some, ↓Wt_true, ↓Wt_false, ↓Wt_none, ↓Wp_bd, ↓Wp_map, ↓Wp_bind, ↓Wo_map, ↓Wo_bind, ↓Wp_if, ↓Wo_if, l_addi, l_sub, l_muli, l_mod, l_fdiv, l_addt, l_addl, l_pow18, l_iadd, l_eqi, l_nei, l_lti, l_lei, l_gti, l_gei, l_eqb, l_ixt, l_ixl, l_ix0, l_set0, l_tbl, l_tint, l_ttup, l_tlst, l_tnon, l_inti, l_intb, l_abs, l_lenl, l_lent, l_min2, l_max2, l_listl, l_listt, l_tupl, l_tupt, l_sorted, l_rgl, l_rgt, l_src_t, l_src_l, l_src_r, l_isit, l_isii, l_isiib, l_isiis, l_isiit, l_isbb, l_isbt, l_newLf, l_newLt, l_newT, l_slct, l_slcl, l_slcr, l_nm, l_tp2, List.getElem?_cons_zero, List.getElem?_cons_succ, List.set_cons_zero, List.set_cons_succ, List.length_cons, List.length_nil, List.map_cons, List.map_nil, List.cons_append, List.nil_append, List.replicate_succ, List.replicate_zero, List.append_nil, wipeD, setAll, true_and, and_true, if_true, if_false, Bool.false_eq_true, ite_true, ite_false, Option.toList_some, Option.toList_none, reduceIte, Nat.reduceAdd, Nat.reduceSub, Nat.reduceLeDiff, Nat.reduceLT, Int.reduceAdd, Int.reduceSub, Bool.not_true, Bool.not_false, ne_eq, not_true_eq_false, not_false_eq_true, gt_iff_lt, ge_iff_le, e]
    exact fin_fl0 hf' (purs_all.mp hp y hy) (k y fl' hy hf')
  · simp only [gPick, ↓wv_var, ↓wv_con, ↓wv_glo, ↓wv_bin, ↓wv_neg, ↓wv_not, ↓wv_and, ↓wv_or, ↓wv_and1, ↓wv_andc, ↓wv_or1, ↓wv_orc, ↓wv_cmp, ↓wv_chn, ↓wv_ite, ↓wv_idx, ↓wv_slc, ↓wo_none, ↓wo_some, ↓wv_tup, ↓wv_lst, ↓wv_dnew, ↓wv_bi, ↓wv_rgl, ↓wv_mt, ↓wv_isi, ↓wv_isn, ↓wv_ntn, ↓ws_nil, ↓ws_cons, ↓wv_call, ↓wv_callk, ↓wv_lc, ↓wv_gx, ↓wp_stp, ↓wtt_nil, ↓wtt_cons, ↓wi_seq, ↓wi_rng, ↓wi_rng2, ↓Wr_int, ↓Wr2_int, ↓wx_nil, ↓seq_nx, ↓seq_rt, ↓seq_bk, ↓seq_ct, ↓wx_cons, ↓wx_asg, ↓wx_asgLc, ↓wx_par, ↓wx_sset, ↓wx_aug, ↓wx_exp, ↓wx_ret, ↓wx_retn, ↓wx_ifs, ↓wx_trn, ↓wx_fr, ↓wx_brk, ↓wx_cnt, ↓wx_pas, ↓Wp_some, ↓Wp_none, ↓Wo_some, ↓Wo_none, ↓Wx_some, ↓Wx_none, ↓Wv_some, ↓Wt_true, ↓Wt_false, ↓Wt_none, ↓Wp_bd, ↓Wp_map, ↓Wp_bind, ↓Wo_map, ↓Wo_bind, ↓Wp_if, ↓Wo_if, l_addi, l_sub, l_muli, l_mod, l_fdiv, l_addt, l_addl, l_pow18, l_iadd, l_eqi, l_nei, l_lti, l_lei, l_gti, l_gei, l_eqb, l_ixt, l_ixl, l_ix0, l_set0, l_tbl, l_tint, l_ttup, l_tlst, l_tnon, l_inti, l_intb, l_abs, l_lenl, l_lent, l_min2, l_max2, l_listl, l_listt, l_tupl, l_tupt, l_sorted, l_rgl, l_rgt, l_src_t, l_src_l, l_src_r, l_isit, l_isii, l_isiib, l_isiis, l_isiit, l_isbb, l_isbt, l_newLf, l_newLt, l_newT, l_slct, l_slcl, l_slcr, l_nm, l_tp2, List.getElem?_cons_zero, List.getElem?_cons_succ, List.set_cons_zero, List.set_cons_succ, List.length_cons, List.length_nil, List.map_cons, List.map_nil, List.cons_append, List.nil_append, List.replicate_succ, List.replicate_zero, List.append_nil, wipeD, setAll, true_and, and_true, if_true, if_false, Bool.false_eq_true, ite_true, ite_false, Option.toList_some, Option.toList_none, reduceIte, Nat.reduceAdd, Nat.reduceSub, Nat.reduceLeDiff, Nat.reduceLT, Int.reduceAdd, Int.reduceSub, Bool.not_true, Bool.not_false, ne_eq, not_true_eq_false, not_false_eq_true, gt_iff_lt, ge_iff_le]
    refine dr_wp hd hf (by omega) (by omega) fun r fl' h0 h1 hf' => ?_
    obtain ⟨y, hy, e⟩ := fin r fl' h0 h1 hf'
    simp only [↓wv_var, ↓wv_con, ↓wv_glo, ↓wv_bin, ↓wv_neg, ↓wv_not, ↓wv_and, ↓wv_or, ↓wv_and1, ↓wv_andc, ↓wv_or1, ↓wv_orc, ↓wv_cmp, ↓wv_chn, ↓wv_ite, ↓wv_idx, ↓wv_slc, ↓wo_none, ↓wo_some, ↓wv_tup, ↓wv_lst, ↓wv_dnew, ↓wv_bi, ↓wv_rgl, ↓wv_mt, ↓wv_isi, ↓wv_isn, ↓wv_ntn, ↓ws_nil, ↓ws_cons, ↓wv_call, ↓wv_callk, ↓wv_lc, ↓wv_gx, ↓wp_stp, ↓wtt_nil, ↓wtt_cons, ↓wi_seq, ↓wi_rng, ↓wi_rng2, ↓Wr_int, ↓Wr2_int, ↓wx_nil, ↓seq_nx, ↓seq_rt, ↓seq_bk, ↓seq_ct, ↓wx_cons, ↓wx_asg, ↓wx_asgLc, ↓wx_par, ↓wx_sset, ↓wx_aug, ↓wx_exp, ↓wx_ret, ↓wx_retn, ↓wx_ifs, ↓wx_trn, ↓wx_fr, ↓wx_brk, ↓wx_cnt, ↓wx_pas, ↓Wp_some, ↓Wp_none, ↓Wo_some, ↓Wo_none, ↓Wx_some, ↓Wx_none, ↓Wv_some, ↓Wt_true, ↓Wt_false, ↓Wt_none, ↓Wp_bd, ↓Wp_map, ↓Wp_bind, ↓Wo_map, ↓Wo_bind, ↓Wp_if, ↓Wo_if, l_addi, l_sub, l_muli, l_mod, l_fdiv, l_addt, l_addl, l_pow18, l_iadd, l_eqi, l_nei, l_lti, l_lei, l_gti, l_gei, l_eqb, l_ixt, l_ixl, l_ix0, l_set0, l_tbl, l_tint, l_ttup, l_tlst, l_tnon, l_inti, l_intb, l_abs, l_lenl, l_lent, l_min2, l_max2, l_listl, l_listt, l_tupl, l_tupt, l_sorted, l_rgl, l_rgt, l_src_t, l_src_l, l_src_r, l_isit, l_isii, l_isiib, l_isiis, l_isiit, l_isbb, l_isbt, l_newLf, l_newLt, l_newT, l_slct, l_slcl, l_slcr, l_nm, l_tp2, List.getElem?_cons_zero, List.getElem?_cons_succ, List.set_cons_zero, List.set_cons_succ, List.length_cons, List.length_nil, List.map_cons, List.map_nil, List.cons_append, List.nil_append, List.replicate_succ, List.replicate_zero, List.append_nil, wipeD, setAll, true_and, and_true, if_true, if_false, Bool.false_eq_true, ite_true, ite_false, Option.toList_some, Option.toList_none, reduceIte, Nat.reduceAdd, Nat.reduceSub, Nat.reduceLeDiff, Nat.reduceLT, Int.reduceAdd, Int.reduceSub, Bool.not_true, Bool.not_false, ne_eq, not_true_eq_false, not_false_eq_true, gt_iff_lt, ge_iff_le, e]
    exact fin_fl0 hf' (purs_all.mp hp y hy) (k y fl' hy hf')
theorem app_get {s : S} {c : C} : (s ++ [c])[s.length]? = some c := by simp
theorem cons_get {fl : List D} {c : C} : (C.lst fl :: (rest ++ [c]))[rest.length + 1]? = some c := by simp
theorem app_set {c c' : C} : (rest ++ [c]).set rest.length c' = rest ++ [c'] := by
  rw [List.set_append_right _ _ (Nat.le_refl _), Nat.sub_self]
  rfl
theorem lst_at {s : S} {k : Nat} {xs : List D} (h : s[k]? = some (.lst xs)) : lstOf s (.ref k) = some xs := by
  show (match s[k]? with
    | some (.lst ds) => some ds
    | _ => none) = _
  rw [h]
theorem dct_no {s : S} {k : Nat} {xs : List D} (h : s[k]? = some (.lst xs)) : dctOf s (.ref k) = none := by
  show (match s[k]? with
    | some (.dct kvs) => some kvs
    | _ => none) = _
  rw [h]
theorem len_ref {s : S} {k : Nat} {xs : List D} {mu : Bool} (h : s[k]? = some (.lst xs)) : biD .len mu [.ref k] s = some (.int xs.length, s) := by
  show (match dctOf s (.ref k) with
    | some kvs => some (D.int kvs.length, s)
    | none => (seqOf s (.ref k)).map fun (xs : List D) => (D.int xs.length, s)) = _
  rw [dct_no h]
  show (lstOf s (.ref k)).map (fun (xs : List D) => (D.int xs.length, s)) = _
  rw [lst_at h]
  rfl
theorem pop_ref {s : S} {k : Nat} {xs : List D} {i : Int} {y : D} (h : s[k]? = some (.lst xs)) (h0 : 0 ≤ i) (h1 : i < xs.length) (hy : xs[i.toNat]? = some y) : mtD .popAt (.ref k) [.int i] s = some (y, s.set k (.lst (xs.eraseIdx i.toNat))) := by
  unfold mtD
  simp only [h, ixD_ok h0 h1, hy]
theorem app_ref {s : S} {k : Nat} {xs : List D} {d : D} (h : s[k]? = some (.lst xs)) (h1 : xs.length < lim) : mtD .append (.ref k) [d] s = some (.non, s.set k (.lst (xs ++ [d]))) := by
  unfold mtD
  simp only [h, if_pos h1]
theorem go_ref {m : Mt} {s : S} {k : Nat} {xs : List D} (hm : m ≠ .get ∧ m ≠ .get2) (h : s[k]? = some (.lst xs)) : mtGo m (.ref k) s = true := by
  have e : (lstOf s (.ref k)).isSome = true := by rw [lst_at h]; rfl
  cases m <;> first | exact e | exact absurd rfl hm.1 | exact absurd rfl hm.2
/-- what is left, in the order of draws -/
def gShuf (fd : Nat) : Fn := ⟨2, 4, (
  .cons (.asg (.nm 2) (.bi .list true (.cons (.var 1) .nil))) (
  .cons (.ret (.lc false [3] (.nm 3) (.rng (.bi .len false (.cons (.var 1) .nil))) .nil (.mt .popAt (.var 2) (.cons (.call fd (.cons (.var 0) (.cons (.bi .len false (.cons (.var 2) .nil)) .nil))) .nil)))) .nil)), false⟩
theorem perm_erase {l : List D} {i : Nat} (h : i < l.length) : (l[i] :: l.eraseIdx i).Perm l := by
  induction l generalizing i with
  | nil => exact absurd h (Nat.not_lt_zero _)
  | cons a l ih =>
    cases i with
    | zero => exact List.Perm.refl _
    | succ i =>
      have h' : i < l.length := by simpa using h
      show (l[i] :: a :: l.eraseIdx i).Perm (a :: l)
      exact (List.Perm.swap _ _ _).trans ((ih h').cons a)
theorem shuf_wp (hP : Ps[f]? = some (gShuf fd)) (hd : IsDraw Ps fd) (hf : Flw fl) (hl2 : ds.length ≤ lim) (hp : purs ds = true) (k : ∀ (es fl' : List D), es.Perm ds → Flw fl' → Q (.lst es) (.lst fl' :: rest)) : Wp (R G Ps (n + 1) f [.ref 0, .lst ds] (.lst fl :: rest)) Q := by
  refine R_wp hP rfl ?_
  have hl3 : ds.length ≤ 100000 := hl2
  simp only [gShuf, ↓wv_var, ↓wv_con, ↓wv_glo, ↓wv_bin, ↓wv_neg, ↓wv_not, ↓wv_and, ↓wv_or, ↓wv_and1, ↓wv_andc, ↓wv_or1, ↓wv_orc, ↓wv_cmp, ↓wv_chn, ↓wv_ite, ↓wv_idx, ↓wv_slc, ↓wo_none, ↓wo_some, ↓wv_tup, ↓wv_lst, ↓wv_dnew, ↓wv_bi, ↓wv_rgl, ↓wv_mt, ↓wv_isi, ↓wv_isn, ↓wv_ntn, ↓ws_nil, ↓ws_cons, ↓wv_call, ↓wv_callk, ↓wv_lc, ↓wv_gx, ↓wp_stp, ↓wtt_nil, ↓wtt_cons, ↓wi_seq, ↓wi_rng, ↓wi_rng2, ↓Wr_int, ↓Wr2_int, ↓wx_nil, ↓seq_nx, ↓seq_rt, ↓seq_bk, ↓seq_ct, ↓wx_cons, ↓wx_asg, ↓wx_asgLc, ↓wx_par, ↓wx_sset, ↓wx_aug, ↓wx_exp, ↓wx_ret, ↓wx_retn, ↓wx_ifs, ↓wx_trn, ↓wx_fr, ↓wx_brk, ↓wx_cnt, ↓wx_pas, ↓Wp_some, ↓Wp_none, ↓Wo_some, ↓Wo_none, ↓Wx_some, ↓Wx_none, ↓Wv_some, ↓Wt_true, ↓Wt_false, ↓Wt_none, ↓Wp_bd, ↓Wp_map, ↓Wp_bind, ↓Wo_map, ↓Wo_bind, ↓Wp_if, ↓Wo_if, l_addi, l_sub, l_muli, l_mod, l_fdiv, l_addt, l_addl, l_pow18, l_iadd, l_eqi, l_nei, l_lti, l_lei, l_gti, l_gei, l_eqb, l_ixt, l_ixl, l_ix0, l_set0, l_tbl, l_tint, l_ttup, l_tlst, l_tnon, l_inti, l_intb, l_abs, l_lenl, l_lent, l_min2, l_max2, l_listl, l_listt, l_tupl, l_tupt, l_sorted, l_rgl, l_rgt, l_src_t, l_src_l, l_src_r, l_isit, l_isii, l_isiib, l_isiis, l_isiit, l_isbb, l_isbt, l_newLf, l_newLt, l_newT, l_slct, l_slcl, l_slcr, l_nm, l_tp2, List.getElem?_cons_zero, List.getElem?_cons_succ, List.set_cons_zero, List.set_cons_succ, List.length_cons, List.length_nil, List.map_cons, List.map_nil, List.cons_append, List.nil_append, List.replicate_succ, List.replicate_zero, List.append_nil, wipeD, setAll, true_and, and_true, if_true, if_false, Bool.false_eq_true, ite_true, ite_false, Option.toList_some, Option.toList_none, reduceIte, Nat.reduceAdd, Nat.reduceSub, Nat.reduceLeDiff, Nat.reduceLT, Int.reduceAdd, Int.reduceSub, Bool.not_true, Bool.not_false, ne_eq, not_true_eq_false, not_false_eq_true, gt_iff_lt, ge_iff_le, hl2]
  refine ⟨rng_ok (by omega) (by omega), ?_⟩
  have z := comp_wp (lk := []) (step := stp G (calls G Ps (n + 1)) [3] (.nm 3) .nil (.mt .popAt (.var 2) (.cons (.call fd (.cons (.var 0) (.cons (.bi .len false (.cons (.var 2) .nil)) .nil))) .nil)) [some (.ref 0), some (.lst ds), some (.ref (rest.length + 1)), none])
    (Q := fun r s' => r.Perm ds ∧ ∃ fl', Flw fl' ∧ s' = .lst fl' :: (rest ++ [.lst []]))
    (fun l acc s' => ∃ fl' left, Flw fl' ∧ s' = .lst fl' :: (rest ++ [.lst left]) ∧ left.length = l.length ∧ (acc ++ left).Perm ds)
    ((List.range (ds.length : Int).toNat).map fun i => D.int (i : Nat)) [] (.lst fl :: (rest ++ [.lst ds])) ⟨fl, ds, hf, rfl, by simp, by simp⟩
    (fun d l acc s' ⟨fl', left, hf', e, hl, hp⟩ => by
      subst e
      have hle : left.length ≤ 100000 := by
        have := hp.length_eq
        rw [List.length_append] at this
        omega
      have hlp : 0 < left.length := by rw [hl]; simp
      have g := cons_get (rest := rest) (fl := fl') (c := .lst left)
      simp only [↓wv_var, ↓wv_con, ↓wv_glo, ↓wv_bin, ↓wv_neg, ↓wv_not, ↓wv_and, ↓wv_or, ↓wv_and1, ↓wv_andc, ↓wv_or1, ↓wv_orc, ↓wv_cmp, ↓wv_chn, ↓wv_ite, ↓wv_idx, ↓wv_slc, ↓wo_none, ↓wo_some, ↓wv_tup, ↓wv_lst, ↓wv_dnew, ↓wv_bi, ↓wv_rgl, ↓wv_mt, ↓wv_isi, ↓wv_isn, ↓wv_ntn, ↓ws_nil, ↓ws_cons, ↓wv_call, ↓wv_callk, ↓wv_lc, ↓wv_gx, ↓wp_stp, ↓wtt_nil, ↓wtt_cons, ↓wi_seq, ↓wi_rng, ↓wi_rng2, ↓Wr_int, ↓Wr2_int, ↓wx_nil, ↓seq_nx, ↓seq_rt, ↓seq_bk, ↓seq_ct, ↓wx_cons, ↓wx_asg, ↓wx_asgLc, ↓wx_par, ↓wx_sset, ↓wx_aug, ↓wx_exp, ↓wx_ret, ↓wx_retn, ↓wx_ifs, ↓wx_trn, ↓wx_fr, ↓wx_brk, ↓wx_cnt, ↓wx_pas, ↓Wp_some, ↓Wp_none, ↓Wo_some, ↓Wo_none, ↓Wx_some, ↓Wx_none, ↓Wv_some, ↓Wt_true, ↓Wt_false, ↓Wt_none, ↓Wp_bd, ↓Wp_map, ↓Wp_bind, ↓Wo_map, ↓Wo_bind, ↓Wp_if, ↓Wo_if, l_addi, l_sub, l_muli, l_mod, l_fdiv, l_addt, l_addl, l_pow18, l_iadd, l_eqi, l_nei, l_lti, l_lei, l_gti, l_gei, l_eqb, l_ixt, l_ixl, l_ix0, l_set0, l_tbl, l_tint, l_ttup, l_tlst, l_tnon, l_inti, l_intb, l_abs, l_lenl, l_lent, l_min2, l_max2, l_listl, l_listt, l_tupl, l_tupt, l_sorted, l_rgl, l_rgt, l_src_t, l_src_l, l_src_r, l_isit, l_isii, l_isiib, l_isiis, l_isiit, l_isbb, l_isbt, l_newLf, l_newLt, l_newT, l_slct, l_slcl, l_slcr, l_nm, l_tp2, List.getElem?_cons_zero, List.getElem?_cons_succ, List.set_cons_zero, List.set_cons_succ, List.length_cons, List.length_nil, List.map_cons, List.map_nil, List.cons_append, List.nil_append, List.replicate_succ, List.replicate_zero, List.append_nil, wipeD, setAll, true_and, and_true, if_true, if_false, Bool.false_eq_true, ite_true, ite_false, Option.toList_some, Option.toList_none, reduceIte, Nat.reduceAdd, Nat.reduceSub, Nat.reduceLeDiff, Nat.reduceLT, Int.reduceAdd, Int.reduceSub, Bool.not_true, Bool.not_false, ne_eq, not_true_eq_false, not_false_eq_true, gt_iff_lt, ge_iff_le, go_ref (m := .popAt) ⟨by decide, by decide⟩ g, len_ref g]
      refine dr_wp hd hf' (by omega) (by omega) fun r fl2 h0 h1 hf2 => ?_
      have hr : r.toNat < left.length := by omega
      have g2 := cons_get (rest := rest) (fl := fl2) (c := .lst left)
      simp only [↓wv_var, ↓wv_con, ↓wv_glo, ↓wv_bin, ↓wv_neg, ↓wv_not, ↓wv_and, ↓wv_or, ↓wv_and1, ↓wv_andc, ↓wv_or1, ↓wv_orc, ↓wv_cmp, ↓wv_chn, ↓wv_ite, ↓wv_idx, ↓wv_slc, ↓wo_none, ↓wo_some, ↓wv_tup, ↓wv_lst, ↓wv_dnew, ↓wv_bi, ↓wv_rgl, ↓wv_mt, ↓wv_isi, ↓wv_isn, ↓wv_ntn, ↓ws_nil, ↓ws_cons, ↓wv_call, ↓wv_callk, ↓wv_lc, ↓wv_gx, ↓wp_stp, ↓wtt_nil, ↓wtt_cons, ↓wi_seq, ↓wi_rng, ↓wi_rng2, ↓Wr_int, ↓Wr2_int, ↓wx_nil, ↓seq_nx, ↓seq_rt, ↓seq_bk, ↓seq_ct, ↓wx_cons, ↓wx_asg, ↓wx_asgLc, ↓wx_par, ↓wx_sset, ↓wx_aug, ↓wx_exp, ↓wx_ret, ↓wx_retn, ↓wx_ifs, ↓wx_trn, ↓wx_fr, ↓wx_brk, ↓wx_cnt, ↓wx_pas, ↓Wp_some, ↓Wp_none, ↓Wo_some, ↓Wo_none, ↓Wx_some, ↓Wx_none, ↓Wv_some, ↓Wt_true, ↓Wt_false, ↓Wt_none, ↓Wp_bd, ↓Wp_map, ↓Wp_bind, ↓Wo_map, ↓Wo_bind, ↓Wp_if, ↓Wo_if, l_addi, l_sub, l_muli, l_mod, l_fdiv, l_addt, l_addl, l_pow18, l_iadd, l_eqi, l_nei, l_lti, l_lei, l_gti, l_gei, l_eqb, l_ixt, l_ixl, l_ix0, l_set0, l_tbl, l_tint, l_ttup, l_tlst, l_tnon, l_inti, l_intb, l_abs, l_lenl, l_lent, l_min2, l_max2, l_listl, l_listt, l_tupl, l_tupt, l_sorted, l_rgl, l_rgt, l_src_t, l_src_l, l_src_r, l_isit, l_isii, l_isiib, l_isiis, l_isiit, l_isbb, l_isbt, l_newLf, l_newLt, l_newT, l_slct, l_slcl, l_slcr, l_nm, l_tp2, List.getElem?_cons_zero, List.getElem?_cons_succ, List.set_cons_zero, List.set_cons_succ, List.length_cons, List.length_nil, List.map_cons, List.map_nil, List.cons_append, List.nil_append, List.replicate_succ, List.replicate_zero, List.append_nil, wipeD, setAll, true_and, and_true, if_true, if_false, Bool.false_eq_true, ite_true, ite_false, Option.toList_some, Option.toList_none, reduceIte, Nat.reduceAdd, Nat.reduceSub, Nat.reduceLeDiff, Nat.reduceLT, Int.reduceAdd, Int.reduceSub, Bool.not_true, Bool.not_false, ne_eq, not_true_eq_false, not_false_eq_true, gt_iff_lt, ge_iff_le, pop_ref g2 h0 h1 (List.getElem?_eq_getElem hr), app_set]
      refine ⟨rfl, fl2, _, hf2, rfl, ?_, ?_⟩
      · rw [List.length_eraseIdx_of_lt hr, hl]
        simp
      · rw [List.append_assoc]
        exact ((perm_erase hr).append_left acc).trans hp)
    (fun acc s' ⟨fl', left, hf', e, hl, hp⟩ => by
      have : left = [] := List.length_eq_zero_iff.mp hl
      subst this
      rw [List.append_nil] at hp
      exact ⟨hp, fl', hf', e⟩)
  refine Wp_imp z fun r s' ⟨hr, fl', hf', e⟩ => ?_
  rw [List.nil_append] at hr
  subst e
  have hlr : r.length ≤ lim := by rw [hr.length_eq]; exact hl2
  simp only [↓wv_var, ↓wv_con, ↓wv_glo, ↓wv_bin, ↓wv_neg, ↓wv_not, ↓wv_and, ↓wv_or, ↓wv_and1, ↓wv_andc, ↓wv_or1, ↓wv_orc, ↓wv_cmp, ↓wv_chn, ↓wv_ite, ↓wv_idx, ↓wv_slc, ↓wo_none, ↓wo_some, ↓wv_tup, ↓wv_lst, ↓wv_dnew, ↓wv_bi, ↓wv_rgl, ↓wv_mt, ↓wv_isi, ↓wv_isn, ↓wv_ntn, ↓ws_nil, ↓ws_cons, ↓wv_call, ↓wv_callk, ↓wv_lc, ↓wv_gx, ↓wp_stp, ↓wtt_nil, ↓wtt_cons, ↓wi_seq, ↓wi_rng, ↓wi_rng2, ↓Wr_int, ↓Wr2_int, ↓wx_nil, ↓seq_nx, ↓seq_rt, ↓seq_bk, ↓seq_ct, ↓wx_cons, ↓wx_asg, ↓wx_asgLc, ↓wx_par, ↓wx_sset, ↓wx_aug, ↓wx_exp, ↓wx_ret, ↓wx_retn, ↓wx_ifs, ↓wx_trn, ↓wx_fr, ↓wx_brk, ↓wx_cnt, ↓wx_pas, ↓Wp_some, ↓Wp_none, ↓Wo_some, ↓Wo_none, ↓Wx_some, ↓Wx_none, ↓Wv_some, ↓Wt_true, ↓Wt_false, ↓Wt_none, ↓Wp_bd, ↓Wp_map, ↓Wp_bind, ↓Wo_map, ↓Wo_bind, ↓Wp_if, ↓Wo_if, l_addi, l_sub, l_muli, l_mod, l_fdiv, l_addt, l_addl, l_pow18, l_iadd, l_eqi, l_nei, l_lti, l_lei, l_gti, l_gei, l_eqb, l_ixt, l_ixl, l_ix0, l_set0, l_tbl, l_tint, l_ttup, l_tlst, l_tnon, l_inti, l_intb, l_abs, l_lenl, l_lent, l_min2, l_max2, l_listl, l_listt, l_tupl, l_tupt, l_sorted, l_rgl, l_rgt, l_src_t, l_src_l, l_src_r, l_isit, l_isii, l_isiib, l_isiis, l_isiit, l_isbb, l_isbt, l_newLf, l_newLt, l_newT, l_slct, l_slcl, l_slcr, l_nm, l_tp2, List.getElem?_cons_zero, List.getElem?_cons_succ, List.set_cons_zero, List.set_cons_succ, List.length_cons, List.length_nil, List.map_cons, List.map_nil, List.cons_append, List.nil_append, List.replicate_succ, List.replicate_zero, List.append_nil, wipeD, setAll, true_and, and_true, if_true, if_false, Bool.false_eq_true, ite_true, ite_false, Option.toList_some, Option.toList_none, reduceIte, Nat.reduceAdd, Nat.reduceSub, Nat.reduceLeDiff, Nat.reduceLT, Int.reduceAdd, Int.reduceSub, Bool.not_true, Bool.not_false, ne_eq, not_true_eq_false, not_false_eq_true, gt_iff_lt, ge_iff_le, hlr]
  have hpr : purs r = true := purs_all.mpr fun d hd => purs_all.mp hp d (hr.mem_iff.mp hd)
  exact fin_fl hf' hpr (k r fl' hr hf')
/-- some of them -/
def gSome (fs fd : Nat) : Fn := ⟨4, 4, (
  .cons (.ret (.slc false (.call fs (.cons (.var 0) (.cons (.var 1) .nil))) .none (.some (.bin (.add false) (.var 2) (.call fd (.cons (.var 0) (.cons (.bin (.add false) (.bin .sub (.var 3) (.var 2)) (.con (.int 1))) .nil))))))) .nil), false⟩
theorem cut_pre {xs : List D} {i : Int} (h : 0 ≤ i) : cutD xs none (some i) = xs.take i.toNat := by
  unfold cutD sIxD
  rw [List.drop_zero, Nat.sub_zero]
  show xs.take (if i < 0 then (i + xs.length).toNat else min i.toNat xs.length) = _
  rw [if_neg (by omega)]
  by_cases c : i.toNat ≤ xs.length
  · rw [Nat.min_eq_left c]
  · rw [Nat.min_eq_right (by omega), List.take_of_length_le (Nat.le_refl _), List.take_of_length_le (by omega)]
theorem some_wp (hP : Ps[f]? = some (gSome fs fd)) (hs : Ps[fs]? = some (gShuf fd)) (hd : IsDraw Ps fd) {lo hi : Int} (hf : Flw fl) (hl2 : ds.length ≤ lim) (hp : purs ds = true) (h0 : 0 ≤ lo) (h1 : lo ≤ hi) (h2 : hi < 1073741823)
    (k : ∀ (es : List D) (j : Int) (fl' : List D), es.Perm ds → lo ≤ j → j ≤ hi → Flw fl' → Q (.lst (es.take j.toNat)) (.lst fl' :: rest)) : Wp (R G Ps (n + 2) f [.ref 0, .lst ds, .int lo, .int hi] (.lst fl :: rest)) Q := by
  refine R_wp hP rfl ?_
  simp only [gSome, ↓wv_var, ↓wv_con, ↓wv_glo, ↓wv_bin, ↓wv_neg, ↓wv_not, ↓wv_and, ↓wv_or, ↓wv_and1, ↓wv_andc, ↓wv_or1, ↓wv_orc, ↓wv_cmp, ↓wv_chn, ↓wv_ite, ↓wv_idx, ↓wv_slc, ↓wo_none, ↓wo_some, ↓wv_tup, ↓wv_lst, ↓wv_dnew, ↓wv_bi, ↓wv_rgl, ↓wv_mt, ↓wv_isi, ↓wv_isn, ↓wv_ntn, ↓ws_nil, ↓ws_cons, ↓wv_call, ↓wv_callk, ↓wv_lc, ↓wv_gx, ↓wp_stp, ↓wtt_nil, ↓wtt_cons, ↓wi_seq, ↓wi_rng, ↓wi_rng2, ↓Wr_int, ↓Wr2_int, ↓wx_nil, ↓seq_nx, ↓seq_rt, ↓seq_bk, ↓seq_ct, ↓wx_cons, ↓wx_asg, ↓wx_asgLc, ↓wx_par, ↓wx_sset, ↓wx_aug, ↓wx_exp, ↓wx_ret, ↓wx_retn, ↓wx_ifs, ↓wx_trn, ↓wx_fr, ↓wx_brk, ↓wx_cnt, ↓wx_pas, ↓Wp_some, ↓Wp_none, ↓Wo_some, ↓Wo_none, ↓Wx_some, ↓Wx_none, ↓Wv_some, ↓Wt_true, ↓Wt_false, ↓Wt_none, ↓Wp_bd, ↓Wp_map, ↓Wp_bind, ↓Wo_map, ↓Wo_bind, ↓Wp_if, ↓Wo_if, l_addi, l_sub, l_muli, l_mod, l_fdiv, l_addt, l_addl, l_pow18, l_iadd, l_eqi, l_nei, l_lti, l_lei, l_gti, l_gei, l_eqb, l_ixt, l_ixl, l_ix0, l_set0, l_tbl, l_tint, l_ttup, l_tlst, l_tnon, l_inti, l_intb, l_abs, l_lenl, l_lent, l_min2, l_max2, l_listl, l_listt, l_tupl, l_tupt, l_sorted, l_rgl, l_rgt, l_src_t, l_src_l, l_src_r, l_isit, l_isii, l_isiib, l_isiis, l_isiit, l_isbb, l_isbt, l_newLf, l_newLt, l_newT, l_slct, l_slcl, l_slcr, l_nm, l_tp2, List.getElem?_cons_zero, List.getElem?_cons_succ, List.set_cons_zero, List.set_cons_succ, List.length_cons, List.length_nil, List.map_cons, List.map_nil, List.cons_append, List.nil_append, List.replicate_succ, List.replicate_zero, List.append_nil, wipeD, setAll, true_and, and_true, if_true, if_false, Bool.false_eq_true, ite_true, ite_false, Option.toList_some, Option.toList_none, reduceIte, Nat.reduceAdd, Nat.reduceSub, Nat.reduceLeDiff, Nat.reduceLT, Int.reduceAdd, Int.reduceSub, Bool.not_true, Bool.not_false, ne_eq, not_true_eq_false, not_false_eq_true, gt_iff_lt, ge_iff_le]
  refine shuf_wp hs hd hf hl2 hp fun es fl' he hf' => ?_
  simp only [↓wv_var, ↓wv_con, ↓wv_glo, ↓wv_bin, ↓wv_neg, ↓wv_not, ↓wv_and, ↓wv_or, ↓wv_and1, ↓wv_andc, ↓wv_or1, ↓wv_orc, ↓wv_cmp, ↓wv_chn, ↓wv_ite, ↓wv_idx, ↓wv_slc, ↓wo_none, ↓wo_some, ↓wv_tup, ↓wv_lst, ↓wv_dnew, ↓wv_bi, ↓wv_rgl, ↓wv_mt, ↓wv_isi, ↓wv_isn, ↓wv_ntn, ↓ws_nil, ↓ws_cons, ↓wv_call, ↓wv_callk, ↓wv_lc, ↓wv_gx, ↓wp_stp, ↓wtt_nil, ↓wtt_cons, ↓wi_seq, ↓wi_rng, ↓wi_rng2, ↓Wr_int, ↓Wr2_int, ↓wx_nil, ↓seq_nx, ↓seq_rt, ↓seq_bk, ↓seq_ct, ↓wx_cons, ↓wx_asg, ↓wx_asgLc, ↓wx_par, ↓wx_sset, ↓wx_aug, ↓wx_exp, ↓wx_ret, ↓wx_retn, ↓wx_ifs, ↓wx_trn, ↓wx_fr, ↓wx_brk, ↓wx_cnt, ↓wx_pas, ↓Wp_some, ↓Wp_none, ↓Wo_some, ↓Wo_none, ↓Wx_some, ↓Wx_none, ↓Wv_some, ↓Wt_true, ↓Wt_false, ↓Wt_none, ↓Wp_bd, ↓Wp_map, ↓Wp_bind, ↓Wo_map, ↓Wo_bind, ↓Wp_if, ↓Wo_if, l_addi, l_sub, l_muli, l_mod, l_fdiv, l_addt, l_addl, l_pow18, l_iadd, l_eqi, l_nei, l_lti, l_lei, l_gti, l_gei, l_eqb, l_ixt, l_ixl, l_ix0, l_set0, l_tbl, l_tint, l_ttup, l_tlst, l_tnon, l_inti, l_intb, l_abs, l_lenl, l_lent, l_min2, l_max2, l_listl, l_listt, l_tupl, l_tupt, l_sorted, l_rgl, l_rgt, l_src_t, l_src_l, l_src_r, l_isit, l_isii, l_isiib, l_isiis, l_isiit, l_isbb, l_isbt, l_newLf, l_newLt, l_newT, l_slct, l_slcl, l_slcr, l_nm, l_tp2, List.getElem?_cons_zero, List.getElem?_cons_succ, List.set_cons_zero, List.set_cons_succ, List.length_cons, List.length_nil, List.map_cons, List.map_nil, List.cons_append, List.nil_append, List.replicate_succ, List.replicate_zero, List.append_nil, wipeD, setAll, true_and, and_true, if_true, if_false, Bool.false_eq_true, ite_true, ite_false, Option.toList_some, Option.toList_none, reduceIte, Nat.reduceAdd, Nat.reduceSub, Nat.reduceLeDiff, Nat.reduceLT, Int.reduceAdd, Int.reduceSub, Bool.not_true, Bool.not_false, ne_eq, not_true_eq_false, not_false_eq_true, gt_iff_lt, ge_iff_le]
  refine dr_wp hd hf' (by omega) (by omega) fun r fl2 r0 r1 hf2 => ?_
  simp only [↓wv_var, ↓wv_con, ↓wv_glo, ↓wv_bin, ↓wv_neg, ↓wv_not, ↓wv_and, ↓wv_or, ↓wv_and1, ↓wv_andc, ↓wv_or1, ↓wv_orc, ↓wv_cmp, ↓wv_chn, ↓wv_ite, ↓wv_idx, ↓wv_slc, ↓wo_none, ↓wo_some, ↓wv_tup, ↓wv_lst, ↓wv_dnew, ↓wv_bi, ↓wv_rgl, ↓wv_mt, ↓wv_isi, ↓wv_isn, ↓wv_ntn, ↓ws_nil, ↓ws_cons, ↓wv_call, ↓wv_callk, ↓wv_lc, ↓wv_gx, ↓wp_stp, ↓wtt_nil, ↓wtt_cons, ↓wi_seq, ↓wi_rng, ↓wi_rng2, ↓Wr_int, ↓Wr2_int, ↓wx_nil, ↓seq_nx, ↓seq_rt, ↓seq_bk, ↓seq_ct, ↓wx_cons, ↓wx_asg, ↓wx_asgLc, ↓wx_par, ↓wx_sset, ↓wx_aug, ↓wx_exp, ↓wx_ret, ↓wx_retn, ↓wx_ifs, ↓wx_trn, ↓wx_fr, ↓wx_brk, ↓wx_cnt, ↓wx_pas, ↓Wp_some, ↓Wp_none, ↓Wo_some, ↓Wo_none, ↓Wx_some, ↓Wx_none, ↓Wv_some, ↓Wt_true, ↓Wt_false, ↓Wt_none, ↓Wp_bd, ↓Wp_map, ↓Wp_bind, ↓Wo_map, ↓Wo_bind, ↓Wp_if, ↓Wo_if, l_addi, l_sub, l_muli, l_mod, l_fdiv, l_addt, l_addl, l_pow18, l_iadd, l_eqi, l_nei, l_lti, l_lei, l_gti, l_gei, l_eqb, l_ixt, l_ixl, l_ix0, l_set0, l_tbl, l_tint, l_ttup, l_tlst, l_tnon, l_inti, l_intb, l_abs, l_lenl, l_lent, l_min2, l_max2, l_listl, l_listt, l_tupl, l_tupt, l_sorted, l_rgl, l_rgt, l_src_t, l_src_l, l_src_r, l_isit, l_isii, l_isiib, l_isiis, l_isiit, l_isbb, l_isbt, l_newLf, l_newLt, l_newT, l_slct, l_slcl, l_slcr, l_nm, l_tp2, List.getElem?_cons_zero, List.getElem?_cons_succ, List.set_cons_zero, List.set_cons_succ, List.length_cons, List.length_nil, List.map_cons, List.map_nil, List.cons_append, List.nil_append, List.replicate_succ, List.replicate_zero, List.append_nil, wipeD, setAll, true_and, and_true, if_true, if_false, Bool.false_eq_true, ite_true, ite_false, Option.toList_some, Option.toList_none, reduceIte, Nat.reduceAdd, Nat.reduceSub, Nat.reduceLeDiff, Nat.reduceLT, Int.reduceAdd, Int.reduceSub, Bool.not_true, Bool.not_false, ne_eq, not_true_eq_false, not_false_eq_true, gt_iff_lt, ge_iff_le, cut_pre (show 0 ≤ lo + r by omega)]
  have hl : (es.take (lo + r).toNat).length ≤ lim := by
    rw [List.length_take, he.length_eq]
    omega
  simp only [hl, ↓wv_var, ↓wv_con, ↓wv_glo, ↓wv_bin, ↓wv_neg, ↓wv_not, ↓wv_and, ↓wv_or, ↓wv_and1, ↓wv_andc, ↓wv_or1, ↓wv_orc, ↓wv_cmp, ↓wv_chn, ↓wv_ite, ↓wv_idx, ↓wv_slc, ↓wo_none, ↓wo_some, ↓wv_tup, ↓wv_lst, ↓wv_dnew, ↓wv_bi, ↓wv_rgl, ↓wv_mt, ↓wv_isi, ↓wv_isn, ↓wv_ntn, ↓ws_nil, ↓ws_cons, ↓wv_call, ↓wv_callk, ↓wv_lc, ↓wv_gx, ↓wp_stp, ↓wtt_nil, ↓wtt_cons, ↓wi_seq, ↓wi_rng, ↓wi_rng2, ↓Wr_int, ↓Wr2_int, ↓wx_nil, ↓seq_nx, ↓seq_rt, ↓seq_bk, ↓seq_ct, ↓wx_cons, ↓wx_asg, ↓wx_asgLc, ↓wx_par, ↓wx_sset, ↓wx_aug, ↓wx_exp, ↓wx_ret, ↓wx_retn, ↓wx_ifs, ↓wx_trn, ↓wx_fr, ↓wx_brk, ↓wx_cnt, ↓wx_pas, ↓Wp_some, ↓Wp_none, ↓Wo_some, ↓Wo_none, ↓Wx_some, ↓Wx_none, ↓Wv_some, ↓Wt_true, ↓Wt_false, ↓Wt_none, ↓Wp_bd, ↓Wp_map, ↓Wp_bind, ↓Wo_map, ↓Wo_bind, ↓Wp_if, ↓Wo_if, l_addi, l_sub, l_muli, l_mod, l_fdiv, l_addt, l_addl, l_pow18, l_iadd, l_eqi, l_nei, l_lti, l_lei, l_gti, l_gei, l_eqb, l_ixt, l_ixl, l_ix0, l_set0, l_tbl, l_tint, l_ttup, l_tlst, l_tnon, l_inti, l_intb, l_abs, l_lenl, l_lent, l_min2, l_max2, l_listl, l_listt, l_tupl, l_tupt, l_sorted, l_rgl, l_rgt, l_src_t, l_src_l, l_src_r, l_isit, l_isii, l_isiib, l_isiis, l_isiit, l_isbb, l_isbt, l_newLf, l_newLt, l_newT, l_slct, l_slcl, l_slcr, l_nm, l_tp2, List.getElem?_cons_zero, List.getElem?_cons_succ, List.set_cons_zero, List.set_cons_succ, List.length_cons, List.length_nil, List.map_cons, List.map_nil, List.cons_append, List.nil_append, List.replicate_succ, List.replicate_zero, List.append_nil, wipeD, setAll, true_and, and_true, if_true, if_false, Bool.false_eq_true, ite_true, ite_false, Option.toList_some, Option.toList_none, reduceIte, Nat.reduceAdd, Nat.reduceSub, Nat.reduceLeDiff, Nat.reduceLT, Int.reduceAdd, Int.reduceSub, Bool.not_true, Bool.not_false, ne_eq, not_true_eq_false, not_false_eq_true, gt_iff_lt, ge_iff_le]
  refine fin_fl0 hf2 ?_ (k es (lo + r) fl2 he (by omega) (by omega) hf2)
  exact purs_all.mpr fun d hd => purs_all.mp hp d (he.mem_iff.mp (List.mem_of_mem_take hd))
end
end Kp

/-! Ky, part E: samenesses, the flow that many laws share. Own work. -/
namespace Kp
open PySem
mutual
/-- numbers, truth values, texts, None, tuples of such -/
def plD : D → Bool
  | .tup ds => decide (ds.length ≤ lim) && plDs ds
  | .lst _ => false
  | .ref _ => false
  | .rol _ => false
  | _ => true
def plDs : List D → Bool
  | [] => true
  | d :: ds => plD d && plDs ds
end
theorem plDs_all : ∀ {ds : List D}, plDs ds = true ↔ ∀ d ∈ ds, plD d = true
  | [] => ⟨fun _ d hd => (by cases hd), fun _ => rfl⟩
  | d :: ds => by
    show (plD d && plDs ds) = true ↔ _
    rw [Bool.and_eq_true, plDs_all]
    exact ⟨fun h x hx => (List.mem_cons.mp hx).elim (fun e => by rw [e]; exact h.1) (h.2 x), fun h => ⟨h d List.mem_cons_self, fun x hx => h x (List.mem_cons_of_mem _ hx)⟩⟩
theorem dep_mem {ds : List D} {d : D} (h : d ∈ ds) : dep d ≤ deps ds := by
  induction ds with
  | nil => cases h
  | cons x xs ih =>
    show dep d ≤ max (dep x) (deps xs)
    rcases List.mem_cons.mp h with rfl | h
    · exact Nat.le_max_left _ _
    · exact Nat.le_trans (ih h) (Nat.le_max_right _ _)
theorem str_same {x : Str} {s : S} : cmpD .eq (.str x) (.str x) s = some true := by
  show (if pur (.str x) && pur (.str x) && decide (min (dep (.str x)) (dep (.str x)) ≤ 64) then some (deq (.str x) (.str x)) else none) = _
  show some (x == x) = _
  rw [beq_self_eq_true]
theorem no_false {ks : List Nat} {s : S} : cmpD .notin (.bl false) (.lst (ks.map fun _ => D.bl true)) s = some true := by
  have hp : purs (ks.map fun _ => D.bl true) = true := purs_all.mpr fun d hd => by
    obtain ⟨_, _, rfl⟩ := List.mem_map.mp hd
    rfl
  have ha : (ks.map fun _ => D.bl true).any (fun z => deq z (.bl false)) = false := by
    rw [List.any_eq_false]
    intro d hd
    obtain ⟨_, _, rfl⟩ := List.mem_map.mp hd
    decide
  show (inD s (.bl false) (.lst (ks.map fun _ => D.bl true))).map (!·) = _
  show (if pur (.bl false) && purs (ks.map fun _ => D.bl true) && decide (dep (.bl false) ≤ 60) then some ((ks.map fun _ => D.bl true).any fun z => deq z (.bl false)) else none).map (!·) = _
  rw [hp, ha]
  rfl
/-- same told as due -/
def gSame (fs : Nat) : Fn := ⟨2, 3, (
  .cons (.ifs (.isi (.var 1) .ttuple) (
    .cons (.ifs (.or (.cons (.not (.isi (.var 0) .ttuple)) (.cons (.cmp .ne (.bi .len false (.cons (.var 0) .nil)) (.bi .len false (.cons (.var 1) .nil))) .nil))) (
      .cons (.ret (.con (.bl false))) .nil) .nil) (
    .cons (.ret (.cmp .notin (.con (.bl false)) (.lc false [2] (.nm 2) (.rng (.bi .len false (.cons (.var 1) .nil))) .nil (.call fs (.cons (.idx (.var 0) (.var 2)) (.cons (.idx (.var 1) (.var 2)) .nil)))))) .nil)) .nil) (
  .cons (.ifs (.isn (.var 1)) (
    .cons (.ret (.isn (.var 0))) .nil) .nil) (
  .cons (.ifs (.isi (.var 1) .tbool) (
    .cons (.ret (.and (.cons (.isi (.var 0) .tbool) (.cons (.cmp .eq (.var 0) (.var 1)) .nil)))) .nil) .nil) (
  .cons (.ifs (.isi (.var 1) .tstr) (
    .cons (.ret (.and (.cons (.isi (.var 0) .tstr) (.cons (.cmp .eq (.var 0) (.var 1)) .nil)))) .nil) .nil) (
  .cons (.ret (.and (.cons (.isi (.var 0) .tint) (.cons (.not (.isi (.var 0) .tbool)) (.cons (.cmp .eq (.var 0) (.var 1)) .nil))))) .nil))))), false⟩
section
variable {G : List D} {Ps : List Fn} {f : Nat} {s : S}
theorem isi_tt {a : List D} : isiD (.tup a) .ttuple s = some true := rfl
theorem isi_nt {d : D} (h : d = .non ∨ (∃ b, d = .bl b) ∨ (∃ x, d = .str x) ∨ ∃ i, d = .int i) : isiD d .ttuple s = some false := by
  rcases h with rfl | ⟨b, rfl⟩ | ⟨x, rfl⟩ | ⟨i, rfl⟩ <;> rfl
theorem x_sb {x : Str} : isiD (.str x) .tbool s = some false := (Eq.refl _).trans rfl
theorem x_ss {x : Str} : isiD (.str x) .tstr s = some true := (Eq.refl _).trans rfl
theorem x_st {x : Str} : isiD (.str x) .ttuple s = some false := (Eq.refl _).trans rfl
theorem x_nt : isiD .non .ttuple s = some false := (Eq.refl _).trans rfl
theorem same_wp (hP : Ps[f]? = some (gSame f)) : ∀ (n : Nat) (x : D) {s : S} {Q : D → S → Prop}, plD x = true → dep x < n → Q (.bl true) s → Wp (R G Ps n f [x, x] s) Q
  | 0, _, _, _, _, h, _ => absurd h (Nat.not_lt_zero _)
  | n + 1, x, s, Q, hp, hd, q => by
    refine R_wp hP rfl ?_
    cases x with
    | non =>
      simp only [gSame, ↓wv_var, ↓wv_con, ↓wv_glo, ↓wv_bin, ↓wv_neg, ↓wv_not, ↓wv_and, ↓wv_or, ↓wv_and1, ↓wv_andc, ↓wv_or1, ↓wv_orc, ↓wv_cmp, ↓wv_chn, ↓wv_ite, ↓wv_idx, ↓wv_slc, ↓wo_none, ↓wo_some, ↓wv_tup, ↓wv_lst, ↓wv_dnew, ↓wv_bi, ↓wv_rgl, ↓wv_mt, ↓wv_isi, ↓wv_isn, ↓wv_ntn, ↓ws_nil, ↓ws_cons, ↓wv_call, ↓wv_callk, ↓wv_lc, ↓wv_gx, ↓wp_stp, ↓wtt_nil, ↓wtt_cons, ↓wi_seq, ↓wi_rng, ↓wi_rng2, ↓Wr_int, ↓Wr2_int, ↓wx_nil, ↓seq_nx, ↓seq_rt, ↓seq_bk, ↓seq_ct, ↓wx_cons, ↓wx_asg, ↓wx_asgLc, ↓wx_par, ↓wx_sset, ↓wx_aug, ↓wx_exp, ↓wx_ret, ↓wx_retn, ↓wx_ifs, ↓wx_trn, ↓wx_fr, ↓wx_brk, ↓wx_cnt, ↓wx_pas, ↓Wp_some, ↓Wp_none, ↓Wo_some, ↓Wo_none, ↓Wx_some, ↓Wx_none, ↓Wv_some, ↓Wt_true, ↓Wt_false, ↓Wt_none, ↓Wp_bd, ↓Wp_map, ↓Wp_bind, ↓Wo_map, ↓Wo_bind, ↓Wp_if, ↓Wo_if, l_addi, l_sub, l_muli, l_mod, l_fdiv, l_addt, l_addl, l_pow18, l_iadd, l_eqi, l_nei, l_lti, l_lei, l_gti, l_gei, l_eqb, l_ixt, l_ixl, l_ix0, l_set0, l_tbl, l_tint, l_ttup, l_tlst, l_tnon, l_inti, l_intb, l_abs, l_lenl, l_lent, l_min2, l_max2, l_listl, l_listt, l_tupl, l_tupt, l_sorted, l_rgl, l_rgt, l_src_t, l_src_l, l_src_r, l_isit, l_isii, l_isiib, l_isiis, l_isiit, l_isbb, l_isbt, l_newLf, l_newLt, l_newT, l_slct, l_slcl, l_slcr, l_nm, l_tp2, List.getElem?_cons_zero, List.getElem?_cons_succ, List.set_cons_zero, List.set_cons_succ, List.length_cons, List.length_nil, List.map_cons, List.map_nil, List.cons_append, List.nil_append, List.replicate_succ, List.replicate_zero, List.append_nil, wipeD, setAll, true_and, and_true, if_true, if_false, Bool.false_eq_true, ite_true, ite_false, Option.toList_some, Option.toList_none, reduceIte, Nat.reduceAdd, Nat.reduceSub, Nat.reduceLeDiff, Nat.reduceLT, Int.reduceAdd, Int.reduceSub, Bool.not_true, Bool.not_false, ne_eq, not_true_eq_false, not_false_eq_true, gt_iff_lt, ge_iff_le, x_nt, decide_true]
      exact fin_same rfl q
    | bl b =>
      have e : (b == b) = true := beq_self_eq_true b
      simp only [gSame, ↓wv_var, ↓wv_con, ↓wv_glo, ↓wv_bin, ↓wv_neg, ↓wv_not, ↓wv_and, ↓wv_or, ↓wv_and1, ↓wv_andc, ↓wv_or1, ↓wv_orc, ↓wv_cmp, ↓wv_chn, ↓wv_ite, ↓wv_idx, ↓wv_slc, ↓wo_none, ↓wo_some, ↓wv_tup, ↓wv_lst, ↓wv_dnew, ↓wv_bi, ↓wv_rgl, ↓wv_mt, ↓wv_isi, ↓wv_isn, ↓wv_ntn, ↓ws_nil, ↓ws_cons, ↓wv_call, ↓wv_callk, ↓wv_lc, ↓wv_gx, ↓wp_stp, ↓wtt_nil, ↓wtt_cons, ↓wi_seq, ↓wi_rng, ↓wi_rng2, ↓Wr_int, ↓Wr2_int, ↓wx_nil, ↓seq_nx, ↓seq_rt, ↓seq_bk, ↓seq_ct, ↓wx_cons, ↓wx_asg, ↓wx_asgLc, ↓wx_par, ↓wx_sset, ↓wx_aug, ↓wx_exp, ↓wx_ret, ↓wx_retn, ↓wx_ifs, ↓wx_trn, ↓wx_fr, ↓wx_brk, ↓wx_cnt, ↓wx_pas, ↓Wp_some, ↓Wp_none, ↓Wo_some, ↓Wo_none, ↓Wx_some, ↓Wx_none, ↓Wv_some, ↓Wt_true, ↓Wt_false, ↓Wt_none, ↓Wp_bd, ↓Wp_map, ↓Wp_bind, ↓Wo_map, ↓Wo_bind, ↓Wp_if, ↓Wo_if, l_addi, l_sub, l_muli, l_mod, l_fdiv, l_addt, l_addl, l_pow18, l_iadd, l_eqi, l_nei, l_lti, l_lei, l_gti, l_gei, l_eqb, l_ixt, l_ixl, l_ix0, l_set0, l_tbl, l_tint, l_ttup, l_tlst, l_tnon, l_inti, l_intb, l_abs, l_lenl, l_lent, l_min2, l_max2, l_listl, l_listt, l_tupl, l_tupt, l_sorted, l_rgl, l_rgt, l_src_t, l_src_l, l_src_r, l_isit, l_isii, l_isiib, l_isiis, l_isiit, l_isbb, l_isbt, l_newLf, l_newLt, l_newT, l_slct, l_slcl, l_slcr, l_nm, l_tp2, List.getElem?_cons_zero, List.getElem?_cons_succ, List.set_cons_zero, List.set_cons_succ, List.length_cons, List.length_nil, List.map_cons, List.map_nil, List.cons_append, List.nil_append, List.replicate_succ, List.replicate_zero, List.append_nil, wipeD, setAll, true_and, and_true, if_true, if_false, Bool.false_eq_true, ite_true, ite_false, Option.toList_some, Option.toList_none, reduceIte, Nat.reduceAdd, Nat.reduceSub, Nat.reduceLeDiff, Nat.reduceLT, Int.reduceAdd, Int.reduceSub, Bool.not_true, Bool.not_false, ne_eq, not_true_eq_false, not_false_eq_true, gt_iff_lt, ge_iff_le, decide_false, reduceCtorEq, e]
      exact fin_same rfl q
    | int i =>
      have e : (i == i) = true := beq_self_eq_true i
      simp only [gSame, ↓wv_var, ↓wv_con, ↓wv_glo, ↓wv_bin, ↓wv_neg, ↓wv_not, ↓wv_and, ↓wv_or, ↓wv_and1, ↓wv_andc, ↓wv_or1, ↓wv_orc, ↓wv_cmp, ↓wv_chn, ↓wv_ite, ↓wv_idx, ↓wv_slc, ↓wo_none, ↓wo_some, ↓wv_tup, ↓wv_lst, ↓wv_dnew, ↓wv_bi, ↓wv_rgl, ↓wv_mt, ↓wv_isi, ↓wv_isn, ↓wv_ntn, ↓ws_nil, ↓ws_cons, ↓wv_call, ↓wv_callk, ↓wv_lc, ↓wv_gx, ↓wp_stp, ↓wtt_nil, ↓wtt_cons, ↓wi_seq, ↓wi_rng, ↓wi_rng2, ↓Wr_int, ↓Wr2_int, ↓wx_nil, ↓seq_nx, ↓seq_rt, ↓seq_bk, ↓seq_ct, ↓wx_cons, ↓wx_asg, ↓wx_asgLc, ↓wx_par, ↓wx_sset, ↓wx_aug, ↓wx_exp, ↓wx_ret, ↓wx_retn, ↓wx_ifs, ↓wx_trn, ↓wx_fr, ↓wx_brk, ↓wx_cnt, ↓wx_pas, ↓Wp_some, ↓Wp_none, ↓Wo_some, ↓Wo_none, ↓Wx_some, ↓Wx_none, ↓Wv_some, ↓Wt_true, ↓Wt_false, ↓Wt_none, ↓Wp_bd, ↓Wp_map, ↓Wp_bind, ↓Wo_map, ↓Wo_bind, ↓Wp_if, ↓Wo_if, l_addi, l_sub, l_muli, l_mod, l_fdiv, l_addt, l_addl, l_pow18, l_iadd, l_eqi, l_nei, l_lti, l_lei, l_gti, l_gei, l_eqb, l_ixt, l_ixl, l_ix0, l_set0, l_tbl, l_tint, l_ttup, l_tlst, l_tnon, l_inti, l_intb, l_abs, l_lenl, l_lent, l_min2, l_max2, l_listl, l_listt, l_tupl, l_tupt, l_sorted, l_rgl, l_rgt, l_src_t, l_src_l, l_src_r, l_isit, l_isii, l_isiib, l_isiis, l_isiit, l_isbb, l_isbt, l_newLf, l_newLt, l_newT, l_slct, l_slcl, l_slcr, l_nm, l_tp2, List.getElem?_cons_zero, List.getElem?_cons_succ, List.set_cons_zero, List.set_cons_succ, List.length_cons, List.length_nil, List.map_cons, List.map_nil, List.cons_append, List.nil_append, List.replicate_succ, List.replicate_zero, List.append_nil, wipeD, setAll, true_and, and_true, if_true, if_false, Bool.false_eq_true, ite_true, ite_false, Option.toList_some, Option.toList_none, reduceIte, Nat.reduceAdd, Nat.reduceSub, Nat.reduceLeDiff, Nat.reduceLT, Int.reduceAdd, Int.reduceSub, Bool.not_true, Bool.not_false, ne_eq, not_true_eq_false, not_false_eq_true, gt_iff_lt, ge_iff_le, decide_false, reduceCtorEq, e]
      exact fin_same rfl q
    | str z =>
      simp only [gSame, ↓wv_var, ↓wv_con, ↓wv_glo, ↓wv_bin, ↓wv_neg, ↓wv_not, ↓wv_and, ↓wv_or, ↓wv_and1, ↓wv_andc, ↓wv_or1, ↓wv_orc, ↓wv_cmp, ↓wv_chn, ↓wv_ite, ↓wv_idx, ↓wv_slc, ↓wo_none, ↓wo_some, ↓wv_tup, ↓wv_lst, ↓wv_dnew, ↓wv_bi, ↓wv_rgl, ↓wv_mt, ↓wv_isi, ↓wv_isn, ↓wv_ntn, ↓ws_nil, ↓ws_cons, ↓wv_call, ↓wv_callk, ↓wv_lc, ↓wv_gx, ↓wp_stp, ↓wtt_nil, ↓wtt_cons, ↓wi_seq, ↓wi_rng, ↓wi_rng2, ↓Wr_int, ↓Wr2_int, ↓wx_nil, ↓seq_nx, ↓seq_rt, ↓seq_bk, ↓seq_ct, ↓wx_cons, ↓wx_asg, ↓wx_asgLc, ↓wx_par, ↓wx_sset, ↓wx_aug, ↓wx_exp, ↓wx_ret, ↓wx_retn, ↓wx_ifs, ↓wx_trn, ↓wx_fr, ↓wx_brk, ↓wx_cnt, ↓wx_pas, ↓Wp_some, ↓Wp_none, ↓Wo_some, ↓Wo_none, ↓Wx_some, ↓Wx_none, ↓Wv_some, ↓Wt_true, ↓Wt_false, ↓Wt_none, ↓Wp_bd, ↓Wp_map, ↓Wp_bind, ↓Wo_map, ↓Wo_bind, ↓Wp_if, ↓Wo_if, l_addi, l_sub, l_muli, l_mod, l_fdiv, l_addt, l_addl, l_pow18, l_iadd, l_eqi, l_nei, l_lti, l_lei, l_gti, l_gei, l_eqb, l_ixt, l_ixl, l_ix0, l_set0, l_tbl, l_tint, l_ttup, l_tlst, l_tnon, l_inti, l_intb, l_abs, l_lenl, l_lent, l_min2, l_max2, l_listl, l_listt, l_tupl, l_tupt, l_sorted, l_rgl, l_rgt, l_src_t, l_src_l, l_src_r, l_isit, l_isii, l_isiib, l_isiis, l_isiit, l_isbb, l_isbt, l_newLf, l_newLt, l_newT, l_slct, l_slcl, l_slcr, l_nm, l_tp2, List.getElem?_cons_zero, List.getElem?_cons_succ, List.set_cons_zero, List.set_cons_succ, List.length_cons, List.length_nil, List.map_cons, List.map_nil, List.cons_append, List.nil_append, List.replicate_succ, List.replicate_zero, List.append_nil, wipeD, setAll, true_and, and_true, if_true, if_false, Bool.false_eq_true, ite_true, ite_false, Option.toList_some, Option.toList_none, reduceIte, Nat.reduceAdd, Nat.reduceSub, Nat.reduceLeDiff, Nat.reduceLT, Int.reduceAdd, Int.reduceSub, Bool.not_true, Bool.not_false, ne_eq, not_true_eq_false, not_false_eq_true, gt_iff_lt, ge_iff_le, decide_false, reduceCtorEq, x_sb, x_ss, x_st, str_same]
      exact fin_same rfl q
    | tup ds =>
      have hp : (decide (ds.length ≤ lim) && plDs ds) = true := hp
      rw [Bool.and_eq_true, decide_eq_true_eq] at hp
      have hl3 : ds.length ≤ 100000 := hp.1
      have hd : deps ds + 1 < n + 1 := hd
      obtain ⟨m, rfl⟩ : ∃ m, n = m + 1 := ⟨n - 1, by omega⟩
      have e : ((ds.length : Int) == ds.length) = true := beq_self_eq_true _
      simp only [gSame, ↓wv_var, ↓wv_con, ↓wv_glo, ↓wv_bin, ↓wv_neg, ↓wv_not, ↓wv_and, ↓wv_or, ↓wv_and1, ↓wv_andc, ↓wv_or1, ↓wv_orc, ↓wv_cmp, ↓wv_chn, ↓wv_ite, ↓wv_idx, ↓wv_slc, ↓wo_none, ↓wo_some, ↓wv_tup, ↓wv_lst, ↓wv_dnew, ↓wv_bi, ↓wv_rgl, ↓wv_mt, ↓wv_isi, ↓wv_isn, ↓wv_ntn, ↓ws_nil, ↓ws_cons, ↓wv_call, ↓wv_callk, ↓wv_lc, ↓wv_gx, ↓wp_stp, ↓wtt_nil, ↓wtt_cons, ↓wi_seq, ↓wi_rng, ↓wi_rng2, ↓Wr_int, ↓Wr2_int, ↓wx_nil, ↓seq_nx, ↓seq_rt, ↓seq_bk, ↓seq_ct, ↓wx_cons, ↓wx_asg, ↓wx_asgLc, ↓wx_par, ↓wx_sset, ↓wx_aug, ↓wx_exp, ↓wx_ret, ↓wx_retn, ↓wx_ifs, ↓wx_trn, ↓wx_fr, ↓wx_brk, ↓wx_cnt, ↓wx_pas, ↓Wp_some, ↓Wp_none, ↓Wo_some, ↓Wo_none, ↓Wx_some, ↓Wx_none, ↓Wv_some, ↓Wt_true, ↓Wt_false, ↓Wt_none, ↓Wp_bd, ↓Wp_map, ↓Wp_bind, ↓Wo_map, ↓Wo_bind, ↓Wp_if, ↓Wo_if, l_addi, l_sub, l_muli, l_mod, l_fdiv, l_addt, l_addl, l_pow18, l_iadd, l_eqi, l_nei, l_lti, l_lei, l_gti, l_gei, l_eqb, l_ixt, l_ixl, l_ix0, l_set0, l_tbl, l_tint, l_ttup, l_tlst, l_tnon, l_inti, l_intb, l_abs, l_lenl, l_lent, l_min2, l_max2, l_listl, l_listt, l_tupl, l_tupt, l_sorted, l_rgl, l_rgt, l_src_t, l_src_l, l_src_r, l_isit, l_isii, l_isiib, l_isiis, l_isiit, l_isbb, l_isbt, l_newLf, l_newLt, l_newT, l_slct, l_slcl, l_slcr, l_nm, l_tp2, List.getElem?_cons_zero, List.getElem?_cons_succ, List.set_cons_zero, List.set_cons_succ, List.length_cons, List.length_nil, List.map_cons, List.map_nil, List.cons_append, List.nil_append, List.replicate_succ, List.replicate_zero, List.append_nil, wipeD, setAll, true_and, and_true, if_true, if_false, Bool.false_eq_true, ite_true, ite_false, Option.toList_some, Option.toList_none, reduceIte, Nat.reduceAdd, Nat.reduceSub, Nat.reduceLeDiff, Nat.reduceLT, Int.reduceAdd, Int.reduceSub, Bool.not_true, Bool.not_false, ne_eq, not_true_eq_false, not_false_eq_true, gt_iff_lt, ge_iff_le, e]
      refine ⟨rng_ok (by omega) (by omega), ?_⟩
      refine comp_all (fun _ => .bl true) rfl _ (fun d hd' => ?_) ?_
      · obtain ⟨k, hk, rfl⟩ := List.mem_map.mp hd'
        have hk : k < ds.length := by simpa using hk
        have e2 : (ixD ds.length (k : Int)).bind (fun j => ds[j]?) = some ds[k] := by
          rw [ixD_ok (by omega) (by omega)]
          show ds[(k : Int).toNat]? = _
          rw [Int.toNat_natCast, List.getElem?_eq_getElem hk]
        simp only [↓wv_var, ↓wv_con, ↓wv_glo, ↓wv_bin, ↓wv_neg, ↓wv_not, ↓wv_and, ↓wv_or, ↓wv_and1, ↓wv_andc, ↓wv_or1, ↓wv_orc, ↓wv_cmp, ↓wv_chn, ↓wv_ite, ↓wv_idx, ↓wv_slc, ↓wo_none, ↓wo_some, ↓wv_tup, ↓wv_lst, ↓wv_dnew, ↓wv_bi, ↓wv_rgl, ↓wv_mt, ↓wv_isi, ↓wv_isn, ↓wv_ntn, ↓ws_nil, ↓ws_cons, ↓wv_call, ↓wv_callk, ↓wv_lc, ↓wv_gx, ↓wp_stp, ↓wtt_nil, ↓wtt_cons, ↓wi_seq, ↓wi_rng, ↓wi_rng2, ↓Wr_int, ↓Wr2_int, ↓wx_nil, ↓seq_nx, ↓seq_rt, ↓seq_bk, ↓seq_ct, ↓wx_cons, ↓wx_asg, ↓wx_asgLc, ↓wx_par, ↓wx_sset, ↓wx_aug, ↓wx_exp, ↓wx_ret, ↓wx_retn, ↓wx_ifs, ↓wx_trn, ↓wx_fr, ↓wx_brk, ↓wx_cnt, ↓wx_pas, ↓Wp_some, ↓Wp_none, ↓Wo_some, ↓Wo_none, ↓Wx_some, ↓Wx_none, ↓Wv_some, ↓Wt_true, ↓Wt_false, ↓Wt_none, ↓Wp_bd, ↓Wp_map, ↓Wp_bind, ↓Wo_map, ↓Wo_bind, ↓Wp_if, ↓Wo_if, l_addi, l_sub, l_muli, l_mod, l_fdiv, l_addt, l_addl, l_pow18, l_iadd, l_eqi, l_nei, l_lti, l_lei, l_gti, l_gei, l_eqb, l_ixt, l_ixl, l_ix0, l_set0, l_tbl, l_tint, l_ttup, l_tlst, l_tnon, l_inti, l_intb, l_abs, l_lenl, l_lent, l_min2, l_max2, l_listl, l_listt, l_tupl, l_tupt, l_sorted, l_rgl, l_rgt, l_src_t, l_src_l, l_src_r, l_isit, l_isii, l_isiib, l_isiis, l_isiit, l_isbb, l_isbt, l_newLf, l_newLt, l_newT, l_slct, l_slcl, l_slcr, l_nm, l_tp2, List.getElem?_cons_zero, List.getElem?_cons_succ, List.set_cons_zero, List.set_cons_succ, List.length_cons, List.length_nil, List.map_cons, List.map_nil, List.cons_append, List.nil_append, List.replicate_succ, List.replicate_zero, List.append_nil, wipeD, setAll, true_and, and_true, if_true, if_false, Bool.false_eq_true, ite_true, ite_false, Option.toList_some, Option.toList_none, reduceIte, Nat.reduceAdd, Nat.reduceSub, Nat.reduceLeDiff, Nat.reduceLT, Int.reduceAdd, Int.reduceSub, Bool.not_true, Bool.not_false, ne_eq, not_true_eq_false, not_false_eq_true, gt_iff_lt, ge_iff_le, e2]
        exact same_wp hP (m + 1) ds[k] (plDs_all.mp hp.2 _ (List.getElem_mem hk)) (by have := dep_mem (List.getElem_mem hk); omega) ⟨rfl, rfl⟩
      · rw [List.map_map]
        have hll : ((List.range (ds.length : Int).toNat).map ((fun _ => D.bl true) ∘ fun i : Nat => D.int (i : Nat))).length ≤ lim := by
          simpa using hp.1
        have nf := no_false (s := s) (ks := List.range (ds.length : Int).toNat)
        have e3 : (List.range (ds.length : Int).toNat).map ((fun _ => D.bl true) ∘ fun i : Nat => D.int (i : Nat)) = (List.range (ds.length : Int).toNat).map fun _ => D.bl true := rfl
        rw [e3] at hll ⊢
        simp only [↓wv_var, ↓wv_con, ↓wv_glo, ↓wv_bin, ↓wv_neg, ↓wv_not, ↓wv_and, ↓wv_or, ↓wv_and1, ↓wv_andc, ↓wv_or1, ↓wv_orc, ↓wv_cmp, ↓wv_chn, ↓wv_ite, ↓wv_idx, ↓wv_slc, ↓wo_none, ↓wo_some, ↓wv_tup, ↓wv_lst, ↓wv_dnew, ↓wv_bi, ↓wv_rgl, ↓wv_mt, ↓wv_isi, ↓wv_isn, ↓wv_ntn, ↓ws_nil, ↓ws_cons, ↓wv_call, ↓wv_callk, ↓wv_lc, ↓wv_gx, ↓wp_stp, ↓wtt_nil, ↓wtt_cons, ↓wi_seq, ↓wi_rng, ↓wi_rng2, ↓Wr_int, ↓Wr2_int, ↓wx_nil, ↓seq_nx, ↓seq_rt, ↓seq_bk, ↓seq_ct, ↓wx_cons, ↓wx_asg, ↓wx_asgLc, ↓wx_par, ↓wx_sset, ↓wx_aug, ↓wx_exp, ↓wx_ret, ↓wx_retn, ↓wx_ifs, ↓wx_trn, ↓wx_fr, ↓wx_brk, ↓wx_cnt, ↓wx_pas, ↓Wp_some, ↓Wp_none, ↓Wo_some, ↓Wo_none, ↓Wx_some, ↓Wx_none, ↓Wv_some, ↓Wt_true, ↓Wt_false, ↓Wt_none, ↓Wp_bd, ↓Wp_map, ↓Wp_bind, ↓Wo_map, ↓Wo_bind, ↓Wp_if, ↓Wo_if, l_addi, l_sub, l_muli, l_mod, l_fdiv, l_addt, l_addl, l_pow18, l_iadd, l_eqi, l_nei, l_lti, l_lei, l_gti, l_gei, l_eqb, l_ixt, l_ixl, l_ix0, l_set0, l_tbl, l_tint, l_ttup, l_tlst, l_tnon, l_inti, l_intb, l_abs, l_lenl, l_lent, l_min2, l_max2, l_listl, l_listt, l_tupl, l_tupt, l_sorted, l_rgl, l_rgt, l_src_t, l_src_l, l_src_r, l_isit, l_isii, l_isiib, l_isiis, l_isiit, l_isbb, l_isbt, l_newLf, l_newLt, l_newT, l_slct, l_slcl, l_slcr, l_nm, l_tp2, List.getElem?_cons_zero, List.getElem?_cons_succ, List.set_cons_zero, List.set_cons_succ, List.length_cons, List.length_nil, List.map_cons, List.map_nil, List.cons_append, List.nil_append, List.replicate_succ, List.replicate_zero, List.append_nil, wipeD, setAll, true_and, and_true, if_true, if_false, Bool.false_eq_true, ite_true, ite_false, Option.toList_some, Option.toList_none, reduceIte, Nat.reduceAdd, Nat.reduceSub, Nat.reduceLeDiff, Nat.reduceLT, Int.reduceAdd, Int.reduceSub, Bool.not_true, Bool.not_false, ne_eq, not_true_eq_false, not_false_eq_true, gt_iff_lt, ge_iff_le, hll, nf]
        exact fin_same rfl q
    | lst _ => cases hp
    | ref _ => cases hp
    | rol _ => cases hp
end
/-- the flow at the script's numbers -/
def gFlow : Fn := ⟨1, 2, (
  .cons (.ret (.lst true (.cons (.con (.int 0)) (.cons (.con (.int 0)) (.cons (.con (.int 0)) (.cons (.con (.int 0)) (.cons (.bin (.add false) (.lc false [1] (.nm 1) (.seq (.slc false (.var 0) .none (.some (.con (.int 63))))) .nil (.bi .abs false (.cons (.bi .int false (.cons (.var 1) .nil)) .nil))) (.lst false (.cons (.con (.int 7)) .nil))) .nil))))))) .nil), true⟩
section
variable {G : List D} {Ps : List Fn} {f n : Nat} {Q : D → S → Prop}
def absI (i : Int) : Int := if i < 0 then -i else i
theorem flow_wp (hP : Ps[f]? = some gFlow) {ns : List Int} (hl : ns.length ≤ 63) {r : D} (hr : r = .rol (ns.map D.int) ∨ r = .lst (ns.map D.int)) (k : ∀ fl, Flw fl → Q (.ref 0) [.lst fl]) : Wp (R G Ps n f [r] []) Q := by
  refine R_wp hP rfl ?_
  have hc : cutD (ns.map D.int) none (some 63) = ns.map D.int := by
    rw [cut_pre (by decide), List.take_of_length_le (by simpa using hl)]
  have hl2 : (ns.map D.int).length ≤ lim := by
    rw [List.length_map]
    exact Nat.le_trans hl (by decide)
  have em : (ns.map D.int).map (fun d => match d with
      | .int i => D.int (absI i)
      | d => d) = (ns.map absI).map D.int := by
    rw [List.map_map, List.map_map]
    rfl
  have hF : Flw (fl5 0 0 0 0 (ns.map absI ++ [7])) := by
    refine ⟨0, 0, 0, 0, _, rfl, by omega, by omega, by omega, by omega, by simp, by simp; omega, fun x hx => ?_⟩
    rcases List.mem_append.mp hx with hx | hx
    · obtain ⟨i, _, rfl⟩ := List.mem_map.mp hx
      unfold absI
      split <;> omega
    · simp at hx
      omega
  have hl4 : ((ns.map absI).map D.int).length ≤ lim := by
    rw [List.length_map, List.length_map]
    exact Nat.le_trans hl (by decide)
  have hl5 : (((ns.map absI).map D.int) ++ [D.int 7]).length ≤ lim := by
    rw [List.length_append, List.length_map, List.length_map]
    exact Nat.le_trans (Nat.add_le_add_right hl 1) (by decide)
  have l5 : (5 : Nat) ≤ lim := by decide
  have l1 : (1 : Nat) ≤ lim := by decide
  have body : ∀ d ∈ ns.map D.int, Wp (stp G (calls G Ps n) [1] (.nm 1) .nil (.bi .abs false (.cons (.bi .int false (.cons (.var 1) .nil)) .nil)) [some r, none] d []) fun o s' => o = some (match d with
      | .int i => D.int (absI i)
      | d => d) ∧ s' = [] := fun d hd => by
    obtain ⟨i, _, rfl⟩ := List.mem_map.mp hd
    simp only [↓wv_var, ↓wv_con, ↓wv_glo, ↓wv_bin, ↓wv_neg, ↓wv_not, ↓wv_and, ↓wv_or, ↓wv_and1, ↓wv_andc, ↓wv_or1, ↓wv_orc, ↓wv_cmp, ↓wv_chn, ↓wv_ite, ↓wv_idx, ↓wv_slc, ↓wo_none, ↓wo_some, ↓wv_tup, ↓wv_lst, ↓wv_dnew, ↓wv_bi, ↓wv_rgl, ↓wv_mt, ↓wv_isi, ↓wv_isn, ↓wv_ntn, ↓ws_nil, ↓ws_cons, ↓wv_call, ↓wv_callk, ↓wv_lc, ↓wv_gx, ↓wp_stp, ↓wtt_nil, ↓wtt_cons, ↓wi_seq, ↓wi_rng, ↓wi_rng2, ↓Wr_int, ↓Wr2_int, ↓wx_nil, ↓seq_nx, ↓seq_rt, ↓seq_bk, ↓seq_ct, ↓wx_cons, ↓wx_asg, ↓wx_asgLc, ↓wx_par, ↓wx_sset, ↓wx_aug, ↓wx_exp, ↓wx_ret, ↓wx_retn, ↓wx_ifs, ↓wx_trn, ↓wx_fr, ↓wx_brk, ↓wx_cnt, ↓wx_pas, ↓Wp_some, ↓Wp_none, ↓Wo_some, ↓Wo_none, ↓Wx_some, ↓Wx_none, ↓Wv_some, ↓Wt_true, ↓Wt_false, ↓Wt_none, ↓Wp_bd, ↓Wp_map, ↓Wp_bind, ↓Wo_map, ↓Wo_bind, ↓Wp_if, ↓Wo_if, l_addi, l_sub, l_muli, l_mod, l_fdiv, l_addt, l_addl, l_pow18, l_iadd, l_eqi, l_nei, l_lti, l_lei, l_gti, l_gei, l_eqb, l_ixt, l_ixl, l_ix0, l_set0, l_tbl, l_tint, l_ttup, l_tlst, l_tnon, l_inti, l_intb, l_abs, l_lenl, l_lent, l_min2, l_max2, l_listl, l_listt, l_tupl, l_tupt, l_sorted, l_rgl, l_rgt, l_src_t, l_src_l, l_src_r, l_isit, l_isii, l_isiib, l_isiis, l_isiit, l_isbb, l_isbt, l_newLf, l_newLt, l_newT, l_slct, l_slcl, l_slcr, l_nm, l_tp2, List.getElem?_cons_zero, List.getElem?_cons_succ, List.set_cons_zero, List.set_cons_succ, List.length_cons, List.length_nil, List.map_cons, List.map_nil, List.cons_append, List.nil_append, List.replicate_succ, List.replicate_zero, List.append_nil, wipeD, setAll, true_and, and_true, if_true, if_false, Bool.false_eq_true, ite_true, ite_false, Option.toList_some, Option.toList_none, reduceIte, Nat.reduceAdd, Nat.reduceSub, Nat.reduceLeDiff, Nat.reduceLT, Int.reduceAdd, Int.reduceSub, Bool.not_true, Bool.not_false, ne_eq, not_true_eq_false, not_false_eq_true, gt_iff_lt, ge_iff_le]
    rfl
  have last : Wp (compL (stp G (calls G Ps n) [1] (.nm 1) .nil (.bi .abs false (.cons (.bi .int false (.cons (.var 1) .nil)) .nil)) [some r, none]) [] (ns.map D.int) []) fun ds s2 => ds = (ns.map absI).map D.int ∧ s2 = [] :=
    comp_all _ rfl _ body ⟨em, rfl⟩
  rcases hr with rfl | rfl
  · simp only [gFlow, ↓wv_var, ↓wv_con, ↓wv_glo, ↓wv_bin, ↓wv_neg, ↓wv_not, ↓wv_and, ↓wv_or, ↓wv_and1, ↓wv_andc, ↓wv_or1, ↓wv_orc, ↓wv_cmp, ↓wv_chn, ↓wv_ite, ↓wv_idx, ↓wv_slc, ↓wo_none, ↓wo_some, ↓wv_tup, ↓wv_lst, ↓wv_dnew, ↓wv_bi, ↓wv_rgl, ↓wv_mt, ↓wv_isi, ↓wv_isn, ↓wv_ntn, ↓ws_nil, ↓ws_cons, ↓wv_call, ↓wv_callk, ↓wv_lc, ↓wv_gx, ↓wp_stp, ↓wtt_nil, ↓wtt_cons, ↓wi_seq, ↓wi_rng, ↓wi_rng2, ↓Wr_int, ↓Wr2_int, ↓wx_nil, ↓seq_nx, ↓seq_rt, ↓seq_bk, ↓seq_ct, ↓wx_cons, ↓wx_asg, ↓wx_asgLc, ↓wx_par, ↓wx_sset, ↓wx_aug, ↓wx_exp, ↓wx_ret, ↓wx_retn, ↓wx_ifs, ↓wx_trn, ↓wx_fr, ↓wx_brk, ↓wx_cnt, ↓wx_pas, ↓Wp_some, ↓Wp_none, ↓Wo_some, ↓Wo_none, ↓Wx_some, ↓Wx_none, ↓Wv_some, ↓Wt_true, ↓Wt_false, ↓Wt_none, ↓Wp_bd, ↓Wp_map, ↓Wp_bind, ↓Wo_map, ↓Wo_bind, ↓Wp_if, ↓Wo_if, l_addi, l_sub, l_muli, l_mod, l_fdiv, l_addt, l_addl, l_pow18, l_iadd, l_eqi, l_nei, l_lti, l_lei, l_gti, l_gei, l_eqb, l_ixt, l_ixl, l_ix0, l_set0, l_tbl, l_tint, l_ttup, l_tlst, l_tnon, l_inti, l_intb, l_abs, l_lenl, l_lent, l_min2, l_max2, l_listl, l_listt, l_tupl, l_tupt, l_sorted, l_rgl, l_rgt, l_src_t, l_src_l, l_src_r, l_isit, l_isii, l_isiib, l_isiis, l_isiit, l_isbb, l_isbt, l_newLf, l_newLt, l_newT, l_slct, l_slcl, l_slcr, l_nm, l_tp2, List.getElem?_cons_zero, List.getElem?_cons_succ, List.set_cons_zero, List.set_cons_succ, List.length_cons, List.length_nil, List.map_cons, List.map_nil, List.cons_append, List.nil_append, List.replicate_succ, List.replicate_zero, List.append_nil, wipeD, setAll, true_and, and_true, if_true, if_false, Bool.false_eq_true, ite_true, ite_false, Option.toList_some, Option.toList_none, reduceIte, Nat.reduceAdd, Nat.reduceSub, Nat.reduceLeDiff, Nat.reduceLT, Int.reduceAdd, Int.reduceSub, Bool.not_true, Bool.not_false, ne_eq, not_true_eq_false, not_false_eq_true, gt_iff_lt, ge_iff_le, hc, hl2]
    refine Wp_imp last fun ds s2 ⟨e1, e2⟩ => ?_
    subst e1 e2
    simp only [↓wv_var, ↓wv_con, ↓wv_glo, ↓wv_bin, ↓wv_neg, ↓wv_not, ↓wv_and, ↓wv_or, ↓wv_and1, ↓wv_andc, ↓wv_or1, ↓wv_orc, ↓wv_cmp, ↓wv_chn, ↓wv_ite, ↓wv_idx, ↓wv_slc, ↓wo_none, ↓wo_some, ↓wv_tup, ↓wv_lst, ↓wv_dnew, ↓wv_bi, ↓wv_rgl, ↓wv_mt, ↓wv_isi, ↓wv_isn, ↓wv_ntn, ↓ws_nil, ↓ws_cons, ↓wv_call, ↓wv_callk, ↓wv_lc, ↓wv_gx, ↓wp_stp, ↓wtt_nil, ↓wtt_cons, ↓wi_seq, ↓wi_rng, ↓wi_rng2, ↓Wr_int, ↓Wr2_int, ↓wx_nil, ↓seq_nx, ↓seq_rt, ↓seq_bk, ↓seq_ct, ↓wx_cons, ↓wx_asg, ↓wx_asgLc, ↓wx_par, ↓wx_sset, ↓wx_aug, ↓wx_exp, ↓wx_ret, ↓wx_retn, ↓wx_ifs, ↓wx_trn, ↓wx_fr, ↓wx_brk, ↓wx_cnt, ↓wx_pas, ↓Wp_some, ↓Wp_none, ↓Wo_some, ↓Wo_none, ↓Wx_some, ↓Wx_none, ↓Wv_some, ↓Wt_true, ↓Wt_false, ↓Wt_none, ↓Wp_bd, ↓Wp_map, ↓Wp_bind, ↓Wo_map, ↓Wo_bind, ↓Wp_if, ↓Wo_if, l_addi, l_sub, l_muli, l_mod, l_fdiv, l_addt, l_addl, l_pow18, l_iadd, l_eqi, l_nei, l_lti, l_lei, l_gti, l_gei, l_eqb, l_ixt, l_ixl, l_ix0, l_set0, l_tbl, l_tint, l_ttup, l_tlst, l_tnon, l_inti, l_intb, l_abs, l_lenl, l_lent, l_min2, l_max2, l_listl, l_listt, l_tupl, l_tupt, l_sorted, l_rgl, l_rgt, l_src_t, l_src_l, l_src_r, l_isit, l_isii, l_isiib, l_isiis, l_isiit, l_isbb, l_isbt, l_newLf, l_newLt, l_newT, l_slct, l_slcl, l_slcr, l_nm, l_tp2, List.getElem?_cons_zero, List.getElem?_cons_succ, List.set_cons_zero, List.set_cons_succ, List.length_cons, List.length_nil, List.map_cons, List.map_nil, List.cons_append, List.nil_append, List.replicate_succ, List.replicate_zero, List.append_nil, wipeD, setAll, true_and, and_true, if_true, if_false, Bool.false_eq_true, ite_true, ite_false, Option.toList_some, Option.toList_none, reduceIte, Nat.reduceAdd, Nat.reduceSub, Nat.reduceLeDiff, Nat.reduceLT, Int.reduceAdd, Int.reduceSub, Bool.not_true, Bool.not_false, ne_eq, not_true_eq_false, not_false_eq_true, gt_iff_lt, ge_iff_le, hl4, hl5, l1, l5]
    refine Wp_of (fin_keep' ) ?_
    have z := k _ hF
    simpa [fl5] using z
  · simp only [gFlow, ↓wv_var, ↓wv_con, ↓wv_glo, ↓wv_bin, ↓wv_neg, ↓wv_not, ↓wv_and, ↓wv_or, ↓wv_and1, ↓wv_andc, ↓wv_or1, ↓wv_orc, ↓wv_cmp, ↓wv_chn, ↓wv_ite, ↓wv_idx, ↓wv_slc, ↓wo_none, ↓wo_some, ↓wv_tup, ↓wv_lst, ↓wv_dnew, ↓wv_bi, ↓wv_rgl, ↓wv_mt, ↓wv_isi, ↓wv_isn, ↓wv_ntn, ↓ws_nil, ↓ws_cons, ↓wv_call, ↓wv_callk, ↓wv_lc, ↓wv_gx, ↓wp_stp, ↓wtt_nil, ↓wtt_cons, ↓wi_seq, ↓wi_rng, ↓wi_rng2, ↓Wr_int, ↓Wr2_int, ↓wx_nil, ↓seq_nx, ↓seq_rt, ↓seq_bk, ↓seq_ct, ↓wx_cons, ↓wx_asg, ↓wx_asgLc, ↓wx_par, ↓wx_sset, ↓wx_aug, ↓wx_exp, ↓wx_ret, ↓wx_retn, ↓wx_ifs, ↓wx_trn, ↓wx_fr, ↓wx_brk, ↓wx_cnt, ↓wx_pas, ↓Wp_some, ↓Wp_none, ↓Wo_some, ↓Wo_none, ↓Wx_some, ↓Wx_none, ↓Wv_some, ↓Wt_true, ↓Wt_false, ↓Wt_none, ↓Wp_bd, ↓Wp_map, ↓Wp_bind, ↓Wo_map, ↓Wo_bind, ↓Wp_if, ↓Wo_if, l_addi, l_sub, l_muli, l_mod, l_fdiv, l_addt, l_addl, l_pow18, l_iadd, l_eqi, l_nei, l_lti, l_lei, l_gti, l_gei, l_eqb, l_ixt, l_ixl, l_ix0, l_set0, l_tbl, l_tint, l_ttup, l_tlst, l_tnon, l_inti, l_intb, l_abs, l_lenl, l_lent, l_min2, l_max2, l_listl, l_listt, l_tupl, l_tupt, l_sorted, l_rgl, l_rgt, l_src_t, l_src_l, l_src_r, l_isit, l_isii, l_isiib, l_isiis, l_isiit, l_isbb, l_isbt, l_newLf, l_newLt, l_newT, l_slct, l_slcl, l_slcr, l_nm, l_tp2, List.getElem?_cons_zero, List.getElem?_cons_succ, List.set_cons_zero, List.set_cons_succ, List.length_cons, List.length_nil, List.map_cons, List.map_nil, List.cons_append, List.nil_append, List.replicate_succ, List.replicate_zero, List.append_nil, wipeD, setAll, true_and, and_true, if_true, if_false, Bool.false_eq_true, ite_true, ite_false, Option.toList_some, Option.toList_none, reduceIte, Nat.reduceAdd, Nat.reduceSub, Nat.reduceLeDiff, Nat.reduceLT, Int.reduceAdd, Int.reduceSub, Bool.not_true, Bool.not_false, ne_eq, not_true_eq_false, not_false_eq_true, gt_iff_lt, ge_iff_le, hc, hl2]
    refine Wp_imp last fun ds s2 ⟨e1, e2⟩ => ?_
    subst e1 e2
    simp only [↓wv_var, ↓wv_con, ↓wv_glo, ↓wv_bin, ↓wv_neg, ↓wv_not, ↓wv_and, ↓wv_or, ↓wv_and1, ↓wv_andc, ↓wv_or1, ↓wv_orc, ↓wv_cmp, ↓wv_chn, ↓wv_ite, ↓wv_idx, ↓wv_slc, ↓wo_none, ↓wo_some, ↓wv_tup, ↓wv_lst, ↓wv_dnew, ↓wv_bi, ↓wv_rgl, ↓wv_mt, ↓wv_isi, ↓wv_isn, ↓wv_ntn, ↓ws_nil, ↓ws_cons, ↓wv_call, ↓wv_callk, ↓wv_lc, ↓wv_gx, ↓wp_stp, ↓wtt_nil, ↓wtt_cons, ↓wi_seq, ↓wi_rng, ↓wi_rng2, ↓Wr_int, ↓Wr2_int, ↓wx_nil, ↓seq_nx, ↓seq_rt, ↓seq_bk, ↓seq_ct, ↓wx_cons, ↓wx_asg, ↓wx_asgLc, ↓wx_par, ↓wx_sset, ↓wx_aug, ↓wx_exp, ↓wx_ret, ↓wx_retn, ↓wx_ifs, ↓wx_trn, ↓wx_fr, ↓wx_brk, ↓wx_cnt, ↓wx_pas, ↓Wp_some, ↓Wp_none, ↓Wo_some, ↓Wo_none, ↓Wx_some, ↓Wx_none, ↓Wv_some, ↓Wt_true, ↓Wt_false, ↓Wt_none, ↓Wp_bd, ↓Wp_map, ↓Wp_bind, ↓Wo_map, ↓Wo_bind, ↓Wp_if, ↓Wo_if, l_addi, l_sub, l_muli, l_mod, l_fdiv, l_addt, l_addl, l_pow18, l_iadd, l_eqi, l_nei, l_lti, l_lei, l_gti, l_gei, l_eqb, l_ixt, l_ixl, l_ix0, l_set0, l_tbl, l_tint, l_ttup, l_tlst, l_tnon, l_inti, l_intb, l_abs, l_lenl, l_lent, l_min2, l_max2, l_listl, l_listt, l_tupl, l_tupt, l_sorted, l_rgl, l_rgt, l_src_t, l_src_l, l_src_r, l_isit, l_isii, l_isiib, l_isiis, l_isiit, l_isbb, l_isbt, l_newLf, l_newLt, l_newT, l_slct, l_slcl, l_slcr, l_nm, l_tp2, List.getElem?_cons_zero, List.getElem?_cons_succ, List.set_cons_zero, List.set_cons_succ, List.length_cons, List.length_nil, List.map_cons, List.map_nil, List.cons_append, List.nil_append, List.replicate_succ, List.replicate_zero, List.append_nil, wipeD, setAll, true_and, and_true, if_true, if_false, Bool.false_eq_true, ite_true, ite_false, Option.toList_some, Option.toList_none, reduceIte, Nat.reduceAdd, Nat.reduceSub, Nat.reduceLeDiff, Nat.reduceLT, Int.reduceAdd, Int.reduceSub, Bool.not_true, Bool.not_false, ne_eq, not_true_eq_false, not_false_eq_true, gt_iff_lt, ge_iff_le, hl4, hl5, l1, l5]
    refine Wp_of (fin_keep' ) ?_
    have z := k _ hF
    simpa [fl5] using z
end
end Kp

/-! Ky, part F: generator expressions that change nothing. Own work. -/
namespace Kp
open PySem
/-- up to the first at which it stops -/
def tkB (st : Bool → Bool) : List Bool → List Bool
  | [] => []
  | b :: bs => if st b then [b] else b :: tkB st bs
theorem tkB_len (st : Bool → Bool) : ∀ bs : List Bool, (tkB st bs).length ≤ bs.length
  | [] => Nat.le_refl _
  | b :: bs => by
    have := tkB_len st bs
    unfold tkB
    split
    · simp
    · simpa using this
theorem last_cons {x : Bool} {xs : List Bool} : (x :: xs).getLast? = some (xs.getLast?.getD x) := by
  cases xs with
  | nil => rfl
  | cons y ys => rw [List.getLast?_cons_cons, List.getLast?_cons]; rfl
theorem tk_all : ∀ bs : List Bool, ((tkB (!·) bs).getLast?).getD true = bs.all id
  | [] => rfl
  | false :: bs => rfl
  | true :: bs => by
    show ((true :: tkB (!·) bs).getLast?).getD true = (true && bs.all id)
    rw [last_cons, Bool.true_and, ← tk_all bs]
    rfl
theorem tk_any : ∀ bs : List Bool, ((tkB id bs).getLast?).getD false = bs.any id
  | [] => rfl
  | true :: bs => rfl
  | false :: bs => by
    show ((false :: tkB id bs).getLast?).getD false = (false || bs.any id)
    rw [last_cons, Bool.false_or, ← tk_any bs]
    rfl
section
variable {s : S} {Q : D → S → Prop} {step : D → S → Option (Option D × S)}
theorem gx_run {stop : D → Bool} {st : Bool → Bool} (hst : ∀ b, stop (.bl b) = st b) (f : D → Option Bool) : ∀ (ds : List D), (∀ d ∈ ds, Wp (step d s) fun o s' => o = (f d).map D.bl ∧ s' = s) → gxL step stop [] ds s = some ((tkB st (ds.filterMap f)).map D.bl, s)
  | [], _ => rfl
  | d :: ds, h => by
    obtain ⟨o, s', e, e1, e2⟩ := Wp_get (h d List.mem_cons_self)
    rw [e1, e2] at e
    have ih := gx_run hst f ds fun d hd => h d (List.mem_cons_of_mem _ hd)
    unfold gxL
    rw [e]
    cases c : f d with
    | none =>
      rw [List.filterMap_cons_none c, ← ih]
      rfl
    | some b =>
      rw [List.filterMap_cons_some c]
      show (if stop (.bl b) then some ([D.bl b], s) else if lkOk [] s then bd (gxL step stop [] ds s) (fun r s2 => some (D.bl b :: r, s2)) else none) = _
      rw [hst, ih]
      show _ = some ((if st b then [b] else b :: tkB st (ds.filterMap f)).map D.bl, s)
      cases st b <;> rfl
theorem fin_all {bs : List Bool} (hl : bs.length ≤ lim) : Gk.all.fin (bs.map D.bl) s = some (.bl (bs.getLast?.getD true), s) := by
  unfold Gk.fin
  rw [if_pos (by simpa using hl)]
  show (match (bs.map D.bl).getLast? with
    | none => some (D.bl true, s)
    | some (.bl b) => some (.bl b, s)
    | some _ => none) = _
  rw [List.getLast?_map]
  cases bs.getLast? <;> rfl
theorem fin_any {bs : List Bool} (hl : bs.length ≤ lim) : Gk.any.fin (bs.map D.bl) s = some (.bl (bs.getLast?.getD false), s) := by
  unfold Gk.fin
  rw [if_pos (by simpa using hl)]
  show (match (bs.map D.bl).getLast? with
    | none => some (D.bl false, s)
    | some (.bl b) => some (.bl b, s)
    | some _ => none) = _
  rw [List.getLast?_map]
  cases bs.getLast? <;> rfl
theorem gx_all (f : D → Option Bool) (ds : List D) (hl : ds.length ≤ lim) (h : ∀ d ∈ ds, Wp (step d s) fun o s' => o = (f d).map D.bl ∧ s' = s) (q : Q (.bl ((ds.filterMap f).all id)) s) : Wp (gxL step Gk.all.stop [] ds s) fun xs s2 => Wp (Gk.all.fin xs s2) Q := by
  refine Wp_of (gx_run (st := (!·)) (fun b => by cases b <;> rfl) f ds h) ?_
  have hl2 : (tkB (!·) (ds.filterMap f)).length ≤ lim := Nat.le_trans (tkB_len _ _) (Nat.le_trans (List.length_filterMap_le _ _) hl)
  refine Wp_of (fin_all hl2) ?_
  rw [tk_all]
  exact q
theorem gx_any (f : D → Option Bool) (ds : List D) (hl : ds.length ≤ lim) (h : ∀ d ∈ ds, Wp (step d s) fun o s' => o = (f d).map D.bl ∧ s' = s) (q : Q (.bl ((ds.filterMap f).any id)) s) : Wp (gxL step Gk.any.stop [] ds s) fun xs s2 => Wp (Gk.any.fin xs s2) Q := by
  refine Wp_of (gx_run (st := id) (fun b => by cases b <;> rfl) f ds h) ?_
  have hl2 : (tkB id (ds.filterMap f)).length ≤ lim := Nat.le_trans (tkB_len _ _) (Nat.le_trans (List.length_filterMap_le _ _) hl)
  refine Wp_of (fin_any hl2) ?_
  rw [tk_any]
  exact q
end
/-! lists of numbers -/
def nD (k : Nat) : D := .int (k : Int)
def tN (l : List Nat) : D := .tup (l.map nD)
theorem nD_inj {a b : Nat} : nD a = nD b ↔ a = b := ⟨fun h => by injection h with h; exact Int.ofNat.inj h, fun h => by rw [h]⟩
theorem purs_n (l : List Nat) : purs (l.map nD) = true := purs_all.mpr fun d hd => by
  obtain ⟨_, _, rfl⟩ := List.mem_map.mp hd
  rfl
theorem plDs_n (l : List Nat) : plDs (l.map nD) = true := plDs_all.mpr fun d hd => by
  obtain ⟨_, _, rfl⟩ := List.mem_map.mp hd
  rfl
theorem deps_n (l : List Nat) : deps (l.map nD) = 0 := by
  induction l with
  | nil => rfl
  | cons k l ih =>
    show max 0 (deps (l.map nD)) = 0
    rw [ih]
    rfl
theorem any_n (k : Nat) (l : List Nat) : ((l.map nD).any fun z => deq z (nD k)) = decide (k ∈ l) := by
  rw [List.any_map, Bool.eq_iff_iff, List.any_eq_true, decide_eq_true_eq]
  constructor
  · intro ⟨x, hx, e⟩
    have e : ((x : Int) == (k : Int)) = true := e
    have e := Int.ofNat.inj (beq_iff_eq.mp e)
    rw [← e]
    exact hx
  · intro h
    exact ⟨k, h, (beq_self_eq_true (k : Int) : ((k : Int) == k) = true)⟩
theorem in_n {k : Nat} {l : List Nat} {s : S} : cmpD .isin (nD k) (tN l) s = some (decide (k ∈ l)) := by
  show (if pur (nD k) && purs (l.map nD) && decide (dep (nD k) ≤ 60) then some ((l.map nD).any fun z => deq z (nD k)) else none) = _
  rw [purs_n, any_n]
  rfl
theorem nin_n {k : Nat} {l : List Nat} {s : S} : cmpD .notin (nD k) (tN l) s = some (!decide (k ∈ l)) := by
  show (inD s (nD k) (tN l)).map (!·) = _
  have := in_n (k := k) (l := l) (s := s)
  rw [show inD s (nD k) (tN l) = some (decide (k ∈ l)) from this]
  rfl
end Kp

/-! k62: the program's defs. Own work. -/
namespace Kp
open PySem
abbrev Rule := List Nat × Nat
def rD (r : Rule) : D := .tup [tN r.1, nD r.2]
def rsD (rs : List Rule) : D := .tup (rs.map rD)
/-- what a lot that keeps all rules is -/
def keeps (rs : List Rule) (l : List Nat) : Bool := rs.all fun r => !(r.1.all fun x => decide (x ∈ l)) || decide (r.2 ∈ l)
section
variable {n : Nat} {s : S} {Q : D → S → Prop}
theorem has_wp {p l : List Nat} (hp : p.length ≤ lim) (q : Q (.bl (p.all fun x => decide (x ∈ l))) s) : Wp (R G Ps (n + 1) 0 [tN p, tN l] s) Q := by
  refine R_wp (fn := w_has_letters) rfl rfl ?_
  have e : ∀ l' : List Nat, tN l' = .tup (l'.map nD) := fun _ => rfl
  simp only [w_has_letters, ↓wv_var, ↓wv_con, ↓wv_glo, ↓wv_bin, ↓wv_neg, ↓wv_not, ↓wv_and, ↓wv_or, ↓wv_and1, ↓wv_andc, ↓wv_or1, ↓wv_orc, ↓wv_cmp, ↓wv_chn, ↓wv_ite, ↓wv_idx, ↓wv_slc, ↓wo_none, ↓wo_some, ↓wv_tup, ↓wv_lst, ↓wv_dnew, ↓wv_bi, ↓wv_rgl, ↓wv_mt, ↓wv_isi, ↓wv_isn, ↓wv_ntn, ↓ws_nil, ↓ws_cons, ↓wv_call, ↓wv_callk, ↓wv_lc, ↓wv_gx, ↓wp_stp, ↓wtt_nil, ↓wtt_cons, ↓wi_seq, ↓wi_rng, ↓wi_rng2, ↓Wr_int, ↓Wr2_int, ↓wx_nil, ↓seq_nx, ↓seq_rt, ↓seq_bk, ↓seq_ct, ↓wx_cons, ↓wx_asg, ↓wx_asgLc, ↓wx_par, ↓wx_sset, ↓wx_aug, ↓wx_exp, ↓wx_ret, ↓wx_retn, ↓wx_ifs, ↓wx_trn, ↓wx_fr, ↓wx_brk, ↓wx_cnt, ↓wx_pas, ↓Wp_some, ↓Wp_none, ↓Wo_some, ↓Wo_none, ↓Wx_some, ↓Wx_none, ↓Wv_some, ↓Wt_true, ↓Wt_false, ↓Wt_none, ↓Wp_bd, ↓Wp_map, ↓Wp_bind, ↓Wo_map, ↓Wo_bind, ↓Wp_if, ↓Wo_if, l_addi, l_sub, l_muli, l_mod, l_fdiv, l_addt, l_addl, l_pow18, l_iadd, l_eqi, l_nei, l_lti, l_lei, l_gti, l_gei, l_eqb, l_ixt, l_ixl, l_ix0, l_set0, l_tbl, l_tint, l_ttup, l_tlst, l_tnon, l_inti, l_intb, l_abs, l_lenl, l_lent, l_min2, l_max2, l_listl, l_listt, l_tupl, l_tupt, l_sorted, l_rgl, l_rgt, l_src_t, l_src_l, l_src_r, l_isit, l_isii, l_isiib, l_isiis, l_isiit, l_isbb, l_isbt, l_newLf, l_newLt, l_newT, l_slct, l_slcl, l_slcr, l_nm, l_tp2, List.getElem?_cons_zero, List.getElem?_cons_succ, List.set_cons_zero, List.set_cons_succ, List.length_cons, List.length_nil, List.map_cons, List.map_nil, List.cons_append, List.nil_append, List.replicate_succ, List.replicate_zero, List.append_nil, wipeD, setAll, true_and, and_true, if_true, if_false, Bool.false_eq_true, ite_true, ite_false, Option.toList_some, Option.toList_none, reduceIte, Nat.reduceAdd, Nat.reduceSub, Nat.reduceLeDiff, Nat.reduceLT, Int.reduceAdd, Int.reduceSub, Bool.not_true, Bool.not_false, ne_eq, not_true_eq_false, not_false_eq_true, gt_iff_lt, ge_iff_le, e p]
  let f : D → Option Bool := fun d => match d with
    | .int i => some (decide (i.toNat ∈ l))
    | _ => none
  have fe : ∀ k : Nat, f (nD k) = some (decide (k ∈ l)) := fun k => rfl
  refine gx_all f _ (by simpa using hp) (fun d hd => ?_) ?_
  · obtain ⟨k, hk, rfl⟩ := List.mem_map.mp hd
    rw [fe]
    simp only [↓wv_var, ↓wv_con, ↓wv_glo, ↓wv_bin, ↓wv_neg, ↓wv_not, ↓wv_and, ↓wv_or, ↓wv_and1, ↓wv_andc, ↓wv_or1, ↓wv_orc, ↓wv_cmp, ↓wv_chn, ↓wv_ite, ↓wv_idx, ↓wv_slc, ↓wo_none, ↓wo_some, ↓wv_tup, ↓wv_lst, ↓wv_dnew, ↓wv_bi, ↓wv_rgl, ↓wv_mt, ↓wv_isi, ↓wv_isn, ↓wv_ntn, ↓ws_nil, ↓ws_cons, ↓wv_call, ↓wv_callk, ↓wv_lc, ↓wv_gx, ↓wp_stp, ↓wtt_nil, ↓wtt_cons, ↓wi_seq, ↓wi_rng, ↓wi_rng2, ↓Wr_int, ↓Wr2_int, ↓wx_nil, ↓seq_nx, ↓seq_rt, ↓seq_bk, ↓seq_ct, ↓wx_cons, ↓wx_asg, ↓wx_asgLc, ↓wx_par, ↓wx_sset, ↓wx_aug, ↓wx_exp, ↓wx_ret, ↓wx_retn, ↓wx_ifs, ↓wx_trn, ↓wx_fr, ↓wx_brk, ↓wx_cnt, ↓wx_pas, ↓Wp_some, ↓Wp_none, ↓Wo_some, ↓Wo_none, ↓Wx_some, ↓Wx_none, ↓Wv_some, ↓Wt_true, ↓Wt_false, ↓Wt_none, ↓Wp_bd, ↓Wp_map, ↓Wp_bind, ↓Wo_map, ↓Wo_bind, ↓Wp_if, ↓Wo_if, l_addi, l_sub, l_muli, l_mod, l_fdiv, l_addt, l_addl, l_pow18, l_iadd, l_eqi, l_nei, l_lti, l_lei, l_gti, l_gei, l_eqb, l_ixt, l_ixl, l_ix0, l_set0, l_tbl, l_tint, l_ttup, l_tlst, l_tnon, l_inti, l_intb, l_abs, l_lenl, l_lent, l_min2, l_max2, l_listl, l_listt, l_tupl, l_tupt, l_sorted, l_rgl, l_rgt, l_src_t, l_src_l, l_src_r, l_isit, l_isii, l_isiib, l_isiis, l_isiit, l_isbb, l_isbt, l_newLf, l_newLt, l_newT, l_slct, l_slcl, l_slcr, l_nm, l_tp2, List.getElem?_cons_zero, List.getElem?_cons_succ, List.set_cons_zero, List.set_cons_succ, List.length_cons, List.length_nil, List.map_cons, List.map_nil, List.cons_append, List.nil_append, List.replicate_succ, List.replicate_zero, List.append_nil, wipeD, setAll, true_and, and_true, if_true, if_false, Bool.false_eq_true, ite_true, ite_false, Option.toList_some, Option.toList_none, reduceIte, Nat.reduceAdd, Nat.reduceSub, Nat.reduceLeDiff, Nat.reduceLT, Int.reduceAdd, Int.reduceSub, Bool.not_true, Bool.not_false, ne_eq, not_true_eq_false, not_false_eq_true, gt_iff_lt, ge_iff_le, in_n]
    rfl
  · refine fin_same rfl ?_
    have e2 : ((p.map nD).filterMap f).all id = p.all fun x => decide (x ∈ l) := by
      clear hp q
      induction p with
      | nil => rfl
      | cons k p ih =>
        rw [List.map_cons, List.filterMap_cons_some (fe k), List.all_cons, List.all_cons, ih]
        rfl
    rw [e2]
    exact q
theorem closed_wp {rs : List Rule} {l : List Nat} (hr : rs.length ≤ lim) (hp : ∀ r ∈ rs, r.1.length ≤ lim) (q : Q (.bl (keeps rs l)) s) : Wp (R G Ps (n + 3) 1 [rsD rs, tN l] s) Q := by
  refine R_wp (fn := w_is_closed) rfl rfl ?_
  have e : ∀ l' : List Rule, rsD l' = .tup (l'.map rD) := fun _ => rfl
  simp only [w_is_closed, ↓wv_var, ↓wv_con, ↓wv_glo, ↓wv_bin, ↓wv_neg, ↓wv_not, ↓wv_and, ↓wv_or, ↓wv_and1, ↓wv_andc, ↓wv_or1, ↓wv_orc, ↓wv_cmp, ↓wv_chn, ↓wv_ite, ↓wv_idx, ↓wv_slc, ↓wo_none, ↓wo_some, ↓wv_tup, ↓wv_lst, ↓wv_dnew, ↓wv_bi, ↓wv_rgl, ↓wv_mt, ↓wv_isi, ↓wv_isn, ↓wv_ntn, ↓ws_nil, ↓ws_cons, ↓wv_call, ↓wv_callk, ↓wv_lc, ↓wv_gx, ↓wp_stp, ↓wtt_nil, ↓wtt_cons, ↓wi_seq, ↓wi_rng, ↓wi_rng2, ↓Wr_int, ↓Wr2_int, ↓wx_nil, ↓seq_nx, ↓seq_rt, ↓seq_bk, ↓seq_ct, ↓wx_cons, ↓wx_asg, ↓wx_asgLc, ↓wx_par, ↓wx_sset, ↓wx_aug, ↓wx_exp, ↓wx_ret, ↓wx_retn, ↓wx_ifs, ↓wx_trn, ↓wx_fr, ↓wx_brk, ↓wx_cnt, ↓wx_pas, ↓Wp_some, ↓Wp_none, ↓Wo_some, ↓Wo_none, ↓Wx_some, ↓Wx_none, ↓Wv_some, ↓Wt_true, ↓Wt_false, ↓Wt_none, ↓Wp_bd, ↓Wp_map, ↓Wp_bind, ↓Wo_map, ↓Wo_bind, ↓Wp_if, ↓Wo_if, l_addi, l_sub, l_muli, l_mod, l_fdiv, l_addt, l_addl, l_pow18, l_iadd, l_eqi, l_nei, l_lti, l_lei, l_gti, l_gei, l_eqb, l_ixt, l_ixl, l_ix0, l_set0, l_tbl, l_tint, l_ttup, l_tlst, l_tnon, l_inti, l_intb, l_abs, l_lenl, l_lent, l_min2, l_max2, l_listl, l_listt, l_tupl, l_tupt, l_sorted, l_rgl, l_rgt, l_src_t, l_src_l, l_src_r, l_isit, l_isii, l_isiib, l_isiis, l_isiit, l_isbb, l_isbt, l_newLf, l_newLt, l_newT, l_slct, l_slcl, l_slcr, l_nm, l_tp2, List.getElem?_cons_zero, List.getElem?_cons_succ, List.set_cons_zero, List.set_cons_succ, List.length_cons, List.length_nil, List.map_cons, List.map_nil, List.cons_append, List.nil_append, List.replicate_succ, List.replicate_zero, List.append_nil, wipeD, setAll, true_and, and_true, if_true, if_false, Bool.false_eq_true, ite_true, ite_false, Option.toList_some, Option.toList_none, reduceIte, Nat.reduceAdd, Nat.reduceSub, Nat.reduceLeDiff, Nat.reduceLT, Int.reduceAdd, Int.reduceSub, Bool.not_true, Bool.not_false, ne_eq, not_true_eq_false, not_false_eq_true, gt_iff_lt, ge_iff_le, e rs]
  let f : D → Option Bool := fun d => match d with
    | .tup [.tup p, .int i] => if (p.all fun x => match x with
        | .int j => decide (j.toNat ∈ l)
        | _ => false) = true then some (decide (i.toNat ∈ l)) else none
    | _ => none
  have fe : ∀ r : Rule, f (rD r) = if (r.1.all fun x => decide (x ∈ l)) = true then some (decide (r.2 ∈ l)) else none := fun r => by
    show (if ((r.1.map nD).all fun x => match x with
        | .int j => decide (j.toNat ∈ l)
        | _ => false) = true then some (decide (r.2 ∈ l)) else none) = _
    rw [List.all_map]
    rfl
  refine gx_all f _ (by simpa using hr) (fun d hd => ?_) ?_
  · obtain ⟨r, hk, rfl⟩ := List.mem_map.mp hd
    rw [fe]
    have er : rD r = .tup [tN r.1, nD r.2] := rfl
    simp only [↓wv_var, ↓wv_con, ↓wv_glo, ↓wv_bin, ↓wv_neg, ↓wv_not, ↓wv_and, ↓wv_or, ↓wv_and1, ↓wv_andc, ↓wv_or1, ↓wv_orc, ↓wv_cmp, ↓wv_chn, ↓wv_ite, ↓wv_idx, ↓wv_slc, ↓wo_none, ↓wo_some, ↓wv_tup, ↓wv_lst, ↓wv_dnew, ↓wv_bi, ↓wv_rgl, ↓wv_mt, ↓wv_isi, ↓wv_isn, ↓wv_ntn, ↓ws_nil, ↓ws_cons, ↓wv_call, ↓wv_callk, ↓wv_lc, ↓wv_gx, ↓wp_stp, ↓wtt_nil, ↓wtt_cons, ↓wi_seq, ↓wi_rng, ↓wi_rng2, ↓Wr_int, ↓Wr2_int, ↓wx_nil, ↓seq_nx, ↓seq_rt, ↓seq_bk, ↓seq_ct, ↓wx_cons, ↓wx_asg, ↓wx_asgLc, ↓wx_par, ↓wx_sset, ↓wx_aug, ↓wx_exp, ↓wx_ret, ↓wx_retn, ↓wx_ifs, ↓wx_trn, ↓wx_fr, ↓wx_brk, ↓wx_cnt, ↓wx_pas, ↓Wp_some, ↓Wp_none, ↓Wo_some, ↓Wo_none, ↓Wx_some, ↓Wx_none, ↓Wv_some, ↓Wt_true, ↓Wt_false, ↓Wt_none, ↓Wp_bd, ↓Wp_map, ↓Wp_bind, ↓Wo_map, ↓Wo_bind, ↓Wp_if, ↓Wo_if, l_addi, l_sub, l_muli, l_mod, l_fdiv, l_addt, l_addl, l_pow18, l_iadd, l_eqi, l_nei, l_lti, l_lei, l_gti, l_gei, l_eqb, l_ixt, l_ixl, l_ix0, l_set0, l_tbl, l_tint, l_ttup, l_tlst, l_tnon, l_inti, l_intb, l_abs, l_lenl, l_lent, l_min2, l_max2, l_listl, l_listt, l_tupl, l_tupt, l_sorted, l_rgl, l_rgt, l_src_t, l_src_l, l_src_r, l_isit, l_isii, l_isiib, l_isiis, l_isiit, l_isbb, l_isbt, l_newLf, l_newLt, l_newT, l_slct, l_slcl, l_slcr, l_nm, l_tp2, List.getElem?_cons_zero, List.getElem?_cons_succ, List.set_cons_zero, List.set_cons_succ, List.length_cons, List.length_nil, List.map_cons, List.map_nil, List.cons_append, List.nil_append, List.replicate_succ, List.replicate_zero, List.append_nil, wipeD, setAll, true_and, and_true, if_true, if_false, Bool.false_eq_true, ite_true, ite_false, Option.toList_some, Option.toList_none, reduceIte, Nat.reduceAdd, Nat.reduceSub, Nat.reduceLeDiff, Nat.reduceLT, Int.reduceAdd, Int.reduceSub, Bool.not_true, Bool.not_false, ne_eq, not_true_eq_false, not_false_eq_true, gt_iff_lt, ge_iff_le, er]
    refine has_wp (hp r hk) ?_
    simp only [↓wv_var, ↓wv_con, ↓wv_glo, ↓wv_bin, ↓wv_neg, ↓wv_not, ↓wv_and, ↓wv_or, ↓wv_and1, ↓wv_andc, ↓wv_or1, ↓wv_orc, ↓wv_cmp, ↓wv_chn, ↓wv_ite, ↓wv_idx, ↓wv_slc, ↓wo_none, ↓wo_some, ↓wv_tup, ↓wv_lst, ↓wv_dnew, ↓wv_bi, ↓wv_rgl, ↓wv_mt, ↓wv_isi, ↓wv_isn, ↓wv_ntn, ↓ws_nil, ↓ws_cons, ↓wv_call, ↓wv_callk, ↓wv_lc, ↓wv_gx, ↓wp_stp, ↓wtt_nil, ↓wtt_cons, ↓wi_seq, ↓wi_rng, ↓wi_rng2, ↓Wr_int, ↓Wr2_int, ↓wx_nil, ↓seq_nx, ↓seq_rt, ↓seq_bk, ↓seq_ct, ↓wx_cons, ↓wx_asg, ↓wx_asgLc, ↓wx_par, ↓wx_sset, ↓wx_aug, ↓wx_exp, ↓wx_ret, ↓wx_retn, ↓wx_ifs, ↓wx_trn, ↓wx_fr, ↓wx_brk, ↓wx_cnt, ↓wx_pas, ↓Wp_some, ↓Wp_none, ↓Wo_some, ↓Wo_none, ↓Wx_some, ↓Wx_none, ↓Wv_some, ↓Wt_true, ↓Wt_false, ↓Wt_none, ↓Wp_bd, ↓Wp_map, ↓Wp_bind, ↓Wo_map, ↓Wo_bind, ↓Wp_if, ↓Wo_if, l_addi, l_sub, l_muli, l_mod, l_fdiv, l_addt, l_addl, l_pow18, l_iadd, l_eqi, l_nei, l_lti, l_lei, l_gti, l_gei, l_eqb, l_ixt, l_ixl, l_ix0, l_set0, l_tbl, l_tint, l_ttup, l_tlst, l_tnon, l_inti, l_intb, l_abs, l_lenl, l_lent, l_min2, l_max2, l_listl, l_listt, l_tupl, l_tupt, l_sorted, l_rgl, l_rgt, l_src_t, l_src_l, l_src_r, l_isit, l_isii, l_isiib, l_isiis, l_isiit, l_isbb, l_isbt, l_newLf, l_newLt, l_newT, l_slct, l_slcl, l_slcr, l_nm, l_tp2, List.getElem?_cons_zero, List.getElem?_cons_succ, List.set_cons_zero, List.set_cons_succ, List.length_cons, List.length_nil, List.map_cons, List.map_nil, List.cons_append, List.nil_append, List.replicate_succ, List.replicate_zero, List.append_nil, wipeD, setAll, true_and, and_true, if_true, if_false, Bool.false_eq_true, ite_true, ite_false, Option.toList_some, Option.toList_none, reduceIte, Nat.reduceAdd, Nat.reduceSub, Nat.reduceLeDiff, Nat.reduceLT, Int.reduceAdd, Int.reduceSub, Bool.not_true, Bool.not_false, ne_eq, not_true_eq_false, not_false_eq_true, gt_iff_lt, ge_iff_le]
    by_cases c : (r.1.all fun x => decide (x ∈ l)) = true
    · simp only [↓wv_var, ↓wv_con, ↓wv_glo, ↓wv_bin, ↓wv_neg, ↓wv_not, ↓wv_and, ↓wv_or, ↓wv_and1, ↓wv_andc, ↓wv_or1, ↓wv_orc, ↓wv_cmp, ↓wv_chn, ↓wv_ite, ↓wv_idx, ↓wv_slc, ↓wo_none, ↓wo_some, ↓wv_tup, ↓wv_lst, ↓wv_dnew, ↓wv_bi, ↓wv_rgl, ↓wv_mt, ↓wv_isi, ↓wv_isn, ↓wv_ntn, ↓ws_nil, ↓ws_cons, ↓wv_call, ↓wv_callk, ↓wv_lc, ↓wv_gx, ↓wp_stp, ↓wtt_nil, ↓wtt_cons, ↓wi_seq, ↓wi_rng, ↓wi_rng2, ↓Wr_int, ↓Wr2_int, ↓wx_nil, ↓seq_nx, ↓seq_rt, ↓seq_bk, ↓seq_ct, ↓wx_cons, ↓wx_asg, ↓wx_asgLc, ↓wx_par, ↓wx_sset, ↓wx_aug, ↓wx_exp, ↓wx_ret, ↓wx_retn, ↓wx_ifs, ↓wx_trn, ↓wx_fr, ↓wx_brk, ↓wx_cnt, ↓wx_pas, ↓Wp_some, ↓Wp_none, ↓Wo_some, ↓Wo_none, ↓Wx_some, ↓Wx_none, ↓Wv_some, ↓Wt_true, ↓Wt_false, ↓Wt_none, ↓Wp_bd, ↓Wp_map, ↓Wp_bind, ↓Wo_map, ↓Wo_bind, ↓Wp_if, ↓Wo_if, l_addi, l_sub, l_muli, l_mod, l_fdiv, l_addt, l_addl, l_pow18, l_iadd, l_eqi, l_nei, l_lti, l_lei, l_gti, l_gei, l_eqb, l_ixt, l_ixl, l_ix0, l_set0, l_tbl, l_tint, l_ttup, l_tlst, l_tnon, l_inti, l_intb, l_abs, l_lenl, l_lent, l_min2, l_max2, l_listl, l_listt, l_tupl, l_tupt, l_sorted, l_rgl, l_rgt, l_src_t, l_src_l, l_src_r, l_isit, l_isii, l_isiib, l_isiis, l_isiit, l_isbb, l_isbt, l_newLf, l_newLt, l_newT, l_slct, l_slcl, l_slcr, l_nm, l_tp2, List.getElem?_cons_zero, List.getElem?_cons_succ, List.set_cons_zero, List.set_cons_succ, List.length_cons, List.length_nil, List.map_cons, List.map_nil, List.cons_append, List.nil_append, List.replicate_succ, List.replicate_zero, List.append_nil, wipeD, setAll, true_and, and_true, if_true, if_false, Bool.false_eq_true, ite_true, ite_false, Option.toList_some, Option.toList_none, reduceIte, Nat.reduceAdd, Nat.reduceSub, Nat.reduceLeDiff, Nat.reduceLT, Int.reduceAdd, Int.reduceSub, Bool.not_true, Bool.not_false, ne_eq, not_true_eq_false, not_false_eq_true, gt_iff_lt, ge_iff_le, c, in_n]
      rfl
    · rw [Bool.not_eq_true] at c
      simp only [↓wv_var, ↓wv_con, ↓wv_glo, ↓wv_bin, ↓wv_neg, ↓wv_not, ↓wv_and, ↓wv_or, ↓wv_and1, ↓wv_andc, ↓wv_or1, ↓wv_orc, ↓wv_cmp, ↓wv_chn, ↓wv_ite, ↓wv_idx, ↓wv_slc, ↓wo_none, ↓wo_some, ↓wv_tup, ↓wv_lst, ↓wv_dnew, ↓wv_bi, ↓wv_rgl, ↓wv_mt, ↓wv_isi, ↓wv_isn, ↓wv_ntn, ↓ws_nil, ↓ws_cons, ↓wv_call, ↓wv_callk, ↓wv_lc, ↓wv_gx, ↓wp_stp, ↓wtt_nil, ↓wtt_cons, ↓wi_seq, ↓wi_rng, ↓wi_rng2, ↓Wr_int, ↓Wr2_int, ↓wx_nil, ↓seq_nx, ↓seq_rt, ↓seq_bk, ↓seq_ct, ↓wx_cons, ↓wx_asg, ↓wx_asgLc, ↓wx_par, ↓wx_sset, ↓wx_aug, ↓wx_exp, ↓wx_ret, ↓wx_retn, ↓wx_ifs, ↓wx_trn, ↓wx_fr, ↓wx_brk, ↓wx_cnt, ↓wx_pas, ↓Wp_some, ↓Wp_none, ↓Wo_some, ↓Wo_none, ↓Wx_some, ↓Wx_none, ↓Wv_some, ↓Wt_true, ↓Wt_false, ↓Wt_none, ↓Wp_bd, ↓Wp_map, ↓Wp_bind, ↓Wo_map, ↓Wo_bind, ↓Wp_if, ↓Wo_if, l_addi, l_sub, l_muli, l_mod, l_fdiv, l_addt, l_addl, l_pow18, l_iadd, l_eqi, l_nei, l_lti, l_lei, l_gti, l_gei, l_eqb, l_ixt, l_ixl, l_ix0, l_set0, l_tbl, l_tint, l_ttup, l_tlst, l_tnon, l_inti, l_intb, l_abs, l_lenl, l_lent, l_min2, l_max2, l_listl, l_listt, l_tupl, l_tupt, l_sorted, l_rgl, l_rgt, l_src_t, l_src_l, l_src_r, l_isit, l_isii, l_isiib, l_isiis, l_isiit, l_isbb, l_isbt, l_newLf, l_newLt, l_newT, l_slct, l_slcl, l_slcr, l_nm, l_tp2, List.getElem?_cons_zero, List.getElem?_cons_succ, List.set_cons_zero, List.set_cons_succ, List.length_cons, List.length_nil, List.map_cons, List.map_nil, List.cons_append, List.nil_append, List.replicate_succ, List.replicate_zero, List.append_nil, wipeD, setAll, true_and, and_true, if_true, if_false, Bool.false_eq_true, ite_true, ite_false, Option.toList_some, Option.toList_none, reduceIte, Nat.reduceAdd, Nat.reduceSub, Nat.reduceLeDiff, Nat.reduceLT, Int.reduceAdd, Int.reduceSub, Bool.not_true, Bool.not_false, ne_eq, not_true_eq_false, not_false_eq_true, gt_iff_lt, ge_iff_le, c]
      rfl
  · refine fin_same rfl ?_
    have e2 : ((rs.map rD).filterMap f).all id = keeps rs l := by
      unfold keeps
      clear hr hp q
      induction rs with
      | nil => rfl
      | cons r rs ih =>
        rw [List.map_cons, List.all_cons, ← ih]
        have h := fe r
        by_cases c : (r.1.all fun x => decide (x ∈ l)) = true
        · rw [if_pos c] at h
          rw [List.filterMap_cons_some h, List.all_cons, c]
          rfl
        · rw [if_neg c] at h
          rw [Bool.not_eq_true] at c
          rw [List.filterMap_cons_none h, c]
          rfl
    rw [e2]
    exact q
end
end Kp

/-! k62: lots, sorted lots. Own work. -/
namespace Kp
open PySem
def lots : Nat → List (List Nat)
  | 0 => [[]]
  | k + 1 => lots k ++ (lots k).map (· ++ [k])
theorem lots_len : ∀ k, (lots k).length = 2 ^ k
  | 0 => rfl
  | k + 1 => by
    show (lots k ++ (lots k).map (· ++ [k])).length = _
    rw [List.length_append, List.length_map, lots_len k, Nat.pow_succ]
    omega
theorem lots_le {k : Nat} (h : k ≤ 4) : (lots k).length ≤ 16 := by
  rw [lots_len]
  have : 2 ^ k ≤ 2 ^ 4 := Nat.pow_le_pow_right (by decide) h
  exact this
theorem lots_item : ∀ (k : Nat) {l : List Nat}, l ∈ lots k → l.length ≤ k
  | 0, l, h => by
    rw [List.mem_singleton.mp h]
    exact Nat.le_refl _
  | k + 1, l, h => by
    rcases List.mem_append.mp h with h | h
    · exact Nat.le_succ_of_le (lots_item k h)
    · obtain ⟨l', h', rfl⟩ := List.mem_map.mp h
      have := lots_item k h'
      simp
      exact this
/-! order -/
theorem dlts_n : ∀ a b : List Nat, dlts (a.map nD) (b.map nD) = some (decide (a < b))
  | [], [] => by
    rw [decide_eq_false (List.lt_irrefl _)]
    rfl
  | [], y :: b => by
    rw [decide_eq_true (List.nil_lt_cons _ _)]
    rfl
  | x :: a, [] => by
    rw [decide_eq_false (List.not_lt_nil _)]
    rfl
  | x :: a, y :: b => by
    show (if deq (nD x) (nD y) then dlts (a.map nD) (b.map nD) else dlt (nD x) (nD y)) = _
    have e1 : deq (nD x) (nD y) = decide (x = y) := by
      show ((x : Int) == (y : Int)) = _
      rw [Bool.eq_iff_iff, beq_iff_eq, decide_eq_true_eq]
      exact ⟨fun h => Int.ofNat.inj h, fun h => by rw [h]⟩
    have e2 : dlt (nD x) (nD y) = some (decide (x < y)) := by
      show some (decide ((x : Int) < (y : Int))) = _
      congr 1
      rw [Bool.eq_iff_iff, decide_eq_true_eq, decide_eq_true_eq]
      exact Int.ofNat_lt
    rw [e1, e2, dlts_n a b]
    by_cases h : x = y
    · subst h
      rw [decide_eq_true rfl, if_pos rfl]
      congr 1
      rw [Bool.eq_iff_iff, decide_eq_true_eq, decide_eq_true_eq, List.cons_lt_cons_iff]
      exact ⟨fun h => .inr ⟨rfl, h⟩, fun h => h.elim (fun z => absurd z (Nat.lt_irrefl _)) fun z => z.2⟩
    · rw [decide_eq_false h, if_neg Bool.false_ne_true]
      congr 1
      rw [Bool.eq_iff_iff, decide_eq_true_eq, decide_eq_true_eq, List.cons_lt_cons_iff]
      exact ⟨fun h => .inl h, fun z => z.elim id fun z => absurd z.1 h⟩
def leN (a b : List Nat) : Bool := decide (a ≤ b)
theorem leD_n (a b : List Nat) : leD (tN a) (tN b) = leN a b := by
  show (!((dlts (b.map nD) (a.map nD)).getD false)) = _
  rw [dlts_n]
  show (!decide (b < a)) = decide (a ≤ b)
  rw [Bool.eq_iff_iff, Bool.not_eq_true', decide_eq_false_iff_not, decide_eq_true_eq]
  exact Iff.rfl
def srt (ls : List (List Nat)) : List (List Nat) := ls.mergeSort leN
theorem srt_perm (ls : List (List Nat)) : (srt ls).Perm ls := List.mergeSort_perm _ _
theorem srt_sorted (ls : List (List Nat)) : (srt ls).Pairwise fun a b => leN a b = true :=
  List.pairwise_mergeSort (le := leN) (fun a b c (h1 : decide (a ≤ b) = true) (h2 : decide (b ≤ c) = true) => (decide_eq_true (List.le_trans (of_decide_eq_true h1) (of_decide_eq_true h2)) : decide (a ≤ c) = true)) (fun a b => by
    show (decide (a ≤ b) || decide (b ≤ a)) = true
    rcases List.le_total a b with h | h
    · rw [decide_eq_true h]; rfl
    · rw [Bool.or_eq_true]; exact .inr (decide_eq_true h)) ls
theorem srt_uniq {xs ys : List (List Nat)} (h : xs.Perm ys) (hx : xs.Pairwise fun a b => leN a b = true) (hy : ys.Pairwise fun a b => leN a b = true) : xs = ys :=
  h.eq_of_pairwise (fun a b _ _ h1 h2 => List.le_antisymm (of_decide_eq_true h1) (of_decide_eq_true h2)) hx hy
theorem srt_congr {xs ys : List (List Nat)} (h : xs.Perm ys) : srt xs = srt ys := srt_uniq (((srt_perm xs).trans h).trans (srt_perm ys).symm) (srt_sorted _) (srt_sorted _)
theorem alks_n : ∀ a b : List Nat, alks (a.map nD) (b.map nD) = true
  | [], b => by cases b <;> rfl
  | x :: a, [] => rfl
  | x :: a, y :: b => by
    show (true && alks (a.map nD) (b.map nD)) = true
    rw [alks_n a b]
    rfl
theorem sortD_n (ls : List (List Nat)) : sortD (ls.map tN) = some ((srt ls).map tN) := by
  have h1 : purs (ls.map tN) = true := purs_all.mpr fun d hd => by
    obtain ⟨l, _, rfl⟩ := List.mem_map.mp hd
    exact purs_n l
  have h2 : deps (ls.map tN) ≤ 60 := by
    have : deps (ls.map tN) ≤ 1 := by
      clear h1
      induction ls with
      | nil => exact Nat.zero_le _
      | cons l ls ih =>
        show max (deps (l.map nD) + 1) (deps (ls.map tN)) ≤ 1
        rw [deps_n]
        omega
    omega
  have h3 : ((ls.map tN).all fun a => (ls.map tN).all (alk a)) = true := by
    rw [List.all_eq_true]
    intro a ha
    rw [List.all_eq_true]
    intro b hb
    obtain ⟨l, _, rfl⟩ := List.mem_map.mp ha
    obtain ⟨m, _, rfl⟩ := List.mem_map.mp hb
    exact alks_n l m
  have h4 : (ls.map tN).all isTp = true := by
    rw [List.all_eq_true]
    intro a ha
    obtain ⟨l, _, rfl⟩ := List.mem_map.mp ha
    rfl
  unfold sortD
  rw [h1, h3, h4, decide_eq_true h2]
  show some ((ls.map tN).mergeSort leD) = _
  unfold srt
  rw [List.map_mergeSort fun a _ b _ => (leD_n a b).symm]
/-- the lots that keep the rules, ascending -/
def kept (n : Nat) (rs : List Rule) : List (List Nat) := srt ((lots n).filter (keeps rs))
def ksD (ls : List (List Nat)) : D := .tup (ls.map tN)
theorem kept_len {k : Nat} {rs : List Rule} (h : k ≤ 4) : (kept k rs).length ≤ 16 := by
  unfold kept
  rw [(srt_perm _).length_eq]
  exact Nat.le_trans (List.length_filter_le _ _) (lots_le h)
theorem plD_ks {ls : List (List Nat)} (h : ls.length ≤ lim) (h2 : ∀ l ∈ ls, l.length ≤ lim) : plD (ksD ls) = true := by
  show (decide ((ls.map tN).length ≤ lim) && plDs (ls.map tN)) = true
  rw [Bool.and_eq_true, decide_eq_true_eq, plDs_all]
  refine ⟨by simpa using h, fun d hd => ?_⟩
  obtain ⟨l, hl, rfl⟩ := List.mem_map.mp hd
  show (decide ((l.map nD).length ≤ lim) && plDs (l.map nD)) = true
  rw [plDs_n, decide_eq_true (by simpa using h2 l hl)]
  rfl
end Kp

/-! k62: closed_lots, the law's own lots. Own work. -/
namespace Kp
open PySem
theorem lim_big {k : Nat} (h : k ≤ 1000) : k ≤ lim := Nat.le_trans h (by decide)
def addL (k : Nat) : D → D
  | .tup ds => .tup (ds ++ [nD k])
  | d => d
theorem addL_map (k : Nat) (ls : List (List Nat)) : (ls.map tN).map (addL k) = (ls.map (· ++ [k])).map tN := by
  rw [List.map_map, List.map_map]
  refine List.map_congr_left fun l _ => ?_
  show D.tup (l.map nD ++ [nD k]) = .tup ((l ++ [k]).map nD)
  rw [List.map_append]
  rfl
theorem range_step {n k : Nat} {d : D} {ds : List D} (h : d :: ds = ((List.range n).drop k).map nD) : k < n ∧ d = nD k ∧ ds = ((List.range n).drop (k + 1)).map nD := by
  by_cases hk : k < n
  · have e : (List.range n).drop k = k :: (List.range n).drop (k + 1) := by
      rw [List.drop_eq_getElem_cons (by simpa using hk)]
      rw [List.getElem_range]
    rw [e, List.map_cons] at h
    injection h with h1 h2
    exact ⟨hk, h1, h2⟩
  · rw [List.drop_of_length_le (by simp; omega)] at h
    cases h
theorem range_end {n k : Nat} (hk : k ≤ n) (h : [] = ((List.range n).drop k).map nD) : k = n := by
  have := congrArg List.length h
  simp at this
  omega
section
variable {n : Nat} {s : S} {Q : D → S → Prop}
theorem seq_lots_wp {n' : Nat} (hn : n' ≤ 4) (q : Q (.lst ((lots n').map tN)) s) : Wp (R G Ps n 9 [nD n'] s) Q := by
  suffices key : ∀ d, d = nD n' → Wp (R G Ps n 9 [d] s) Q from key _ rfl
  intro d hd
  refine R_wp (fn := w__law_lots) rfl rfl ?_
  subst hd
  have e0 : ∀ k : Nat, nD k = .int (k : Int) := fun _ => rfl
  have l1 : (0 : Nat) ≤ lim := by decide
  have l2 : (1 : Nat) ≤ lim := by decide
  simp only [w__law_lots, ↓wv_var, ↓wv_con, ↓wv_glo, ↓wv_bin, ↓wv_neg, ↓wv_not, ↓wv_and, ↓wv_or, ↓wv_and1, ↓wv_andc, ↓wv_or1, ↓wv_orc, ↓wv_cmp, ↓wv_chn, ↓wv_ite, ↓wv_idx, ↓wv_slc, ↓wo_none, ↓wo_some, ↓wv_tup, ↓wv_lst, ↓wv_dnew, ↓wv_bi, ↓wv_rgl, ↓wv_mt, ↓wv_isi, ↓wv_isn, ↓wv_ntn, ↓ws_nil, ↓ws_cons, ↓wv_call, ↓wv_callk, ↓wv_lc, ↓wv_gx, ↓wp_stp, ↓wtt_nil, ↓wtt_cons, ↓wi_seq, ↓wi_rng, ↓wi_rng2, ↓Wr_int, ↓Wr2_int, ↓wx_nil, ↓seq_nx, ↓seq_rt, ↓seq_bk, ↓seq_ct, ↓wx_cons, ↓wx_asg, ↓wx_asgLc, ↓wx_par, ↓wx_sset, ↓wx_aug, ↓wx_exp, ↓wx_ret, ↓wx_retn, ↓wx_ifs, ↓wx_trn, ↓wx_fr, ↓wx_brk, ↓wx_cnt, ↓wx_pas, ↓Wp_some, ↓Wp_none, ↓Wo_some, ↓Wo_none, ↓Wx_some, ↓Wx_none, ↓Wv_some, ↓Wt_true, ↓Wt_false, ↓Wt_none, ↓Wp_bd, ↓Wp_map, ↓Wp_bind, ↓Wo_map, ↓Wo_bind, ↓Wp_if, ↓Wo_if, l_addi, l_sub, l_muli, l_mod, l_fdiv, l_addt, l_addl, l_pow18, l_iadd, l_eqi, l_nei, l_lti, l_lei, l_gti, l_gei, l_eqb, l_ixt, l_ixl, l_ix0, l_set0, l_tbl, l_tint, l_ttup, l_tlst, l_tnon, l_inti, l_intb, l_abs, l_lenl, l_lent, l_min2, l_max2, l_listl, l_listt, l_tupl, l_tupt, l_sorted, l_rgl, l_rgt, l_src_t, l_src_l, l_src_r, l_isit, l_isii, l_isiib, l_isiis, l_isiit, l_isbb, l_isbt, l_newLf, l_newLt, l_newT, l_slct, l_slcl, l_slcr, l_nm, l_tp2, List.getElem?_cons_zero, List.getElem?_cons_succ, List.set_cons_zero, List.set_cons_succ, List.length_cons, List.length_nil, List.map_cons, List.map_nil, List.cons_append, List.nil_append, List.replicate_succ, List.replicate_zero, List.append_nil, wipeD, setAll, true_and, and_true, if_true, if_false, Bool.false_eq_true, ite_true, ite_false, Option.toList_some, Option.toList_none, reduceIte, Nat.reduceAdd, Nat.reduceSub, Nat.reduceLeDiff, Nat.reduceLT, Int.reduceAdd, Int.reduceSub, Bool.not_true, Bool.not_false, ne_eq, not_true_eq_false, not_false_eq_true, gt_iff_lt, ge_iff_le, e0, l1, l2]
  refine ⟨rng_ok (by omega) (by omega), ?_⟩
  refine for_wp (fun ds env s' => ∃ k z, k ≤ n' ∧ s' = s ∧ ds = ((List.range n').drop k).map nD ∧ env = [some (.int (n' : Int)), some (.lst ((lots k).map tN)), z, none]) _ _ _ ⟨0, none, Nat.zero_le _, rfl, ?_, rfl⟩ (fun d ds env s' h => ?_) fun env s' h => ?_
  · rw [List.drop_zero, Int.toNat_natCast]
    rfl
  · obtain ⟨k, z, hk, rfl, hd, rfl⟩ := h
    obtain ⟨hk2, rfl, hd2⟩ := range_step hd
    simp only [↓wv_var, ↓wv_con, ↓wv_glo, ↓wv_bin, ↓wv_neg, ↓wv_not, ↓wv_and, ↓wv_or, ↓wv_and1, ↓wv_andc, ↓wv_or1, ↓wv_orc, ↓wv_cmp, ↓wv_chn, ↓wv_ite, ↓wv_idx, ↓wv_slc, ↓wo_none, ↓wo_some, ↓wv_tup, ↓wv_lst, ↓wv_dnew, ↓wv_bi, ↓wv_rgl, ↓wv_mt, ↓wv_isi, ↓wv_isn, ↓wv_ntn, ↓ws_nil, ↓ws_cons, ↓wv_call, ↓wv_callk, ↓wv_lc, ↓wv_gx, ↓wp_stp, ↓wtt_nil, ↓wtt_cons, ↓wi_seq, ↓wi_rng, ↓wi_rng2, ↓Wr_int, ↓Wr2_int, ↓wx_nil, ↓seq_nx, ↓seq_rt, ↓seq_bk, ↓seq_ct, ↓wx_cons, ↓wx_asg, ↓wx_asgLc, ↓wx_par, ↓wx_sset, ↓wx_aug, ↓wx_exp, ↓wx_ret, ↓wx_retn, ↓wx_ifs, ↓wx_trn, ↓wx_fr, ↓wx_brk, ↓wx_cnt, ↓wx_pas, ↓Wp_some, ↓Wp_none, ↓Wo_some, ↓Wo_none, ↓Wx_some, ↓Wx_none, ↓Wv_some, ↓Wt_true, ↓Wt_false, ↓Wt_none, ↓Wp_bd, ↓Wp_map, ↓Wp_bind, ↓Wo_map, ↓Wo_bind, ↓Wp_if, ↓Wo_if, l_addi, l_sub, l_muli, l_mod, l_fdiv, l_addt, l_addl, l_pow18, l_iadd, l_eqi, l_nei, l_lti, l_lei, l_gti, l_gei, l_eqb, l_ixt, l_ixl, l_ix0, l_set0, l_tbl, l_tint, l_ttup, l_tlst, l_tnon, l_inti, l_intb, l_abs, l_lenl, l_lent, l_min2, l_max2, l_listl, l_listt, l_tupl, l_tupt, l_sorted, l_rgl, l_rgt, l_src_t, l_src_l, l_src_r, l_isit, l_isii, l_isiib, l_isiis, l_isiit, l_isbb, l_isbt, l_newLf, l_newLt, l_newT, l_slct, l_slcl, l_slcr, l_nm, l_tp2, List.getElem?_cons_zero, List.getElem?_cons_succ, List.set_cons_zero, List.set_cons_succ, List.length_cons, List.length_nil, List.map_cons, List.map_nil, List.cons_append, List.nil_append, List.replicate_succ, List.replicate_zero, List.append_nil, wipeD, setAll, true_and, and_true, if_true, if_false, Bool.false_eq_true, ite_true, ite_false, Option.toList_some, Option.toList_none, reduceIte, Nat.reduceAdd, Nat.reduceSub, Nat.reduceLeDiff, Nat.reduceLT, Int.reduceAdd, Int.reduceSub, Bool.not_true, Bool.not_false, ne_eq, not_true_eq_false, not_false_eq_true, gt_iff_lt, ge_iff_le, e0]
    refine comp_all (addL k) rfl _ (fun d hd => ?_) ?_
    · obtain ⟨l, hl, rfl⟩ := List.mem_map.mp hd
      have hll := lots_item k hl
      have e1 : tN l = .tup (l.map nD) := rfl
      have e2 : (l.map nD).length + 1 ≤ lim := by
        rw [List.length_map]
        exact lim_big (by omega)
      simp only [↓wv_var, ↓wv_con, ↓wv_glo, ↓wv_bin, ↓wv_neg, ↓wv_not, ↓wv_and, ↓wv_or, ↓wv_and1, ↓wv_andc, ↓wv_or1, ↓wv_orc, ↓wv_cmp, ↓wv_chn, ↓wv_ite, ↓wv_idx, ↓wv_slc, ↓wo_none, ↓wo_some, ↓wv_tup, ↓wv_lst, ↓wv_dnew, ↓wv_bi, ↓wv_rgl, ↓wv_mt, ↓wv_isi, ↓wv_isn, ↓wv_ntn, ↓ws_nil, ↓ws_cons, ↓wv_call, ↓wv_callk, ↓wv_lc, ↓wv_gx, ↓wp_stp, ↓wtt_nil, ↓wtt_cons, ↓wi_seq, ↓wi_rng, ↓wi_rng2, ↓Wr_int, ↓Wr2_int, ↓wx_nil, ↓seq_nx, ↓seq_rt, ↓seq_bk, ↓seq_ct, ↓wx_cons, ↓wx_asg, ↓wx_asgLc, ↓wx_par, ↓wx_sset, ↓wx_aug, ↓wx_exp, ↓wx_ret, ↓wx_retn, ↓wx_ifs, ↓wx_trn, ↓wx_fr, ↓wx_brk, ↓wx_cnt, ↓wx_pas, ↓Wp_some, ↓Wp_none, ↓Wo_some, ↓Wo_none, ↓Wx_some, ↓Wx_none, ↓Wv_some, ↓Wt_true, ↓Wt_false, ↓Wt_none, ↓Wp_bd, ↓Wp_map, ↓Wp_bind, ↓Wo_map, ↓Wo_bind, ↓Wp_if, ↓Wo_if, l_addi, l_sub, l_muli, l_mod, l_fdiv, l_addt, l_addl, l_pow18, l_iadd, l_eqi, l_nei, l_lti, l_lei, l_gti, l_gei, l_eqb, l_ixt, l_ixl, l_ix0, l_set0, l_tbl, l_tint, l_ttup, l_tlst, l_tnon, l_inti, l_intb, l_abs, l_lenl, l_lent, l_min2, l_max2, l_listl, l_listt, l_tupl, l_tupt, l_sorted, l_rgl, l_rgt, l_src_t, l_src_l, l_src_r, l_isit, l_isii, l_isiib, l_isiis, l_isiit, l_isbb, l_isbt, l_newLf, l_newLt, l_newT, l_slct, l_slcl, l_slcr, l_nm, l_tp2, List.getElem?_cons_zero, List.getElem?_cons_succ, List.set_cons_zero, List.set_cons_succ, List.length_cons, List.length_nil, List.map_cons, List.map_nil, List.cons_append, List.nil_append, List.replicate_succ, List.replicate_zero, List.append_nil, wipeD, setAll, true_and, and_true, if_true, if_false, Bool.false_eq_true, ite_true, ite_false, Option.toList_some, Option.toList_none, reduceIte, Nat.reduceAdd, Nat.reduceSub, Nat.reduceLeDiff, Nat.reduceLT, Int.reduceAdd, Int.reduceSub, Bool.not_true, Bool.not_false, ne_eq, not_true_eq_false, not_false_eq_true, gt_iff_lt, ge_iff_le, e1, l2, e2]
      rfl
    · have h16 := lots_le (k := k) (by omega)
      have e3 : (((lots k).map tN).map (addL k)).length ≤ lim := by simpa using lim_big (by omega)
      have e4 : ((lots k).map tN ++ ((lots k).map tN).map (addL k)).length ≤ lim := by simpa using lim_big (by omega)
      simp only [↓wv_var, ↓wv_con, ↓wv_glo, ↓wv_bin, ↓wv_neg, ↓wv_not, ↓wv_and, ↓wv_or, ↓wv_and1, ↓wv_andc, ↓wv_or1, ↓wv_orc, ↓wv_cmp, ↓wv_chn, ↓wv_ite, ↓wv_idx, ↓wv_slc, ↓wo_none, ↓wo_some, ↓wv_tup, ↓wv_lst, ↓wv_dnew, ↓wv_bi, ↓wv_rgl, ↓wv_mt, ↓wv_isi, ↓wv_isn, ↓wv_ntn, ↓ws_nil, ↓ws_cons, ↓wv_call, ↓wv_callk, ↓wv_lc, ↓wv_gx, ↓wp_stp, ↓wtt_nil, ↓wtt_cons, ↓wi_seq, ↓wi_rng, ↓wi_rng2, ↓Wr_int, ↓Wr2_int, ↓wx_nil, ↓seq_nx, ↓seq_rt, ↓seq_bk, ↓seq_ct, ↓wx_cons, ↓wx_asg, ↓wx_asgLc, ↓wx_par, ↓wx_sset, ↓wx_aug, ↓wx_exp, ↓wx_ret, ↓wx_retn, ↓wx_ifs, ↓wx_trn, ↓wx_fr, ↓wx_brk, ↓wx_cnt, ↓wx_pas, ↓Wp_some, ↓Wp_none, ↓Wo_some, ↓Wo_none, ↓Wx_some, ↓Wx_none, ↓Wv_some, ↓Wt_true, ↓Wt_false, ↓Wt_none, ↓Wp_bd, ↓Wp_map, ↓Wp_bind, ↓Wo_map, ↓Wo_bind, ↓Wp_if, ↓Wo_if, l_addi, l_sub, l_muli, l_mod, l_fdiv, l_addt, l_addl, l_pow18, l_iadd, l_eqi, l_nei, l_lti, l_lei, l_gti, l_gei, l_eqb, l_ixt, l_ixl, l_ix0, l_set0, l_tbl, l_tint, l_ttup, l_tlst, l_tnon, l_inti, l_intb, l_abs, l_lenl, l_lent, l_min2, l_max2, l_listl, l_listt, l_tupl, l_tupt, l_sorted, l_rgl, l_rgt, l_src_t, l_src_l, l_src_r, l_isit, l_isii, l_isiib, l_isiis, l_isiit, l_isbb, l_isbt, l_newLf, l_newLt, l_newT, l_slct, l_slcl, l_slcr, l_nm, l_tp2, List.getElem?_cons_zero, List.getElem?_cons_succ, List.set_cons_zero, List.set_cons_succ, List.length_cons, List.length_nil, List.map_cons, List.map_nil, List.cons_append, List.nil_append, List.replicate_succ, List.replicate_zero, List.append_nil, wipeD, setAll, true_and, and_true, if_true, if_false, Bool.false_eq_true, ite_true, ite_false, Option.toList_some, Option.toList_none, reduceIte, Nat.reduceAdd, Nat.reduceSub, Nat.reduceLeDiff, Nat.reduceLT, Int.reduceAdd, Int.reduceSub, Bool.not_true, Bool.not_false, ne_eq, not_true_eq_false, not_false_eq_true, gt_iff_lt, ge_iff_le, e3, e4]
      refine ⟨rfl, k + 1, some (.int (k : Int)), hk2, hd2, ?_⟩
      rw [addL_map, ← List.map_append]
      rfl
  · obtain ⟨k, z, hk, rfl, hd, rfl⟩ := h
    have := range_end hk hd
    subst this
    simp only [↓wv_var, ↓wv_con, ↓wv_glo, ↓wv_bin, ↓wv_neg, ↓wv_not, ↓wv_and, ↓wv_or, ↓wv_and1, ↓wv_andc, ↓wv_or1, ↓wv_orc, ↓wv_cmp, ↓wv_chn, ↓wv_ite, ↓wv_idx, ↓wv_slc, ↓wo_none, ↓wo_some, ↓wv_tup, ↓wv_lst, ↓wv_dnew, ↓wv_bi, ↓wv_rgl, ↓wv_mt, ↓wv_isi, ↓wv_isn, ↓wv_ntn, ↓ws_nil, ↓ws_cons, ↓wv_call, ↓wv_callk, ↓wv_lc, ↓wv_gx, ↓wp_stp, ↓wtt_nil, ↓wtt_cons, ↓wi_seq, ↓wi_rng, ↓wi_rng2, ↓Wr_int, ↓Wr2_int, ↓wx_nil, ↓seq_nx, ↓seq_rt, ↓seq_bk, ↓seq_ct, ↓wx_cons, ↓wx_asg, ↓wx_asgLc, ↓wx_par, ↓wx_sset, ↓wx_aug, ↓wx_exp, ↓wx_ret, ↓wx_retn, ↓wx_ifs, ↓wx_trn, ↓wx_fr, ↓wx_brk, ↓wx_cnt, ↓wx_pas, ↓Wp_some, ↓Wp_none, ↓Wo_some, ↓Wo_none, ↓Wx_some, ↓Wx_none, ↓Wv_some, ↓Wt_true, ↓Wt_false, ↓Wt_none, ↓Wp_bd, ↓Wp_map, ↓Wp_bind, ↓Wo_map, ↓Wo_bind, ↓Wp_if, ↓Wo_if, l_addi, l_sub, l_muli, l_mod, l_fdiv, l_addt, l_addl, l_pow18, l_iadd, l_eqi, l_nei, l_lti, l_lei, l_gti, l_gei, l_eqb, l_ixt, l_ixl, l_ix0, l_set0, l_tbl, l_tint, l_ttup, l_tlst, l_tnon, l_inti, l_intb, l_abs, l_lenl, l_lent, l_min2, l_max2, l_listl, l_listt, l_tupl, l_tupt, l_sorted, l_rgl, l_rgt, l_src_t, l_src_l, l_src_r, l_isit, l_isii, l_isiib, l_isiis, l_isiit, l_isbb, l_isbt, l_newLf, l_newLt, l_newT, l_slct, l_slcl, l_slcr, l_nm, l_tp2, List.getElem?_cons_zero, List.getElem?_cons_succ, List.set_cons_zero, List.set_cons_succ, List.length_cons, List.length_nil, List.map_cons, List.map_nil, List.cons_append, List.nil_append, List.replicate_succ, List.replicate_zero, List.append_nil, wipeD, setAll, true_and, and_true, if_true, if_false, Bool.false_eq_true, ite_true, ite_false, Option.toList_some, Option.toList_none, reduceIte, Nat.reduceAdd, Nat.reduceSub, Nat.reduceLeDiff, Nat.reduceLT, Int.reduceAdd, Int.reduceSub, Bool.not_true, Bool.not_false, ne_eq, not_true_eq_false, not_false_eq_true, gt_iff_lt, ge_iff_le]
    unfold fin
    rw [if_neg Bool.false_ne_true]
    have e5 : purs ((lots k).map tN) = true := purs_all.mpr fun d hd => by
      obtain ⟨l, _, rfl⟩ := List.mem_map.mp hd
      exact purs_n l
    exact fin_same e5 q
theorem told_wp {n' : Nat} {rs : List Rule} (hn : n' ≤ 4) (hr : rs.length ≤ lim) (hp : ∀ r ∈ rs, r.1.length ≤ lim) (q : Q (ksD (kept n' rs)) s) : Wp (R G Ps (n + 4) 2 [nD n', rsD rs] s) Q := by
  suffices key : ∀ d, d = nD n' → Wp (R G Ps (n + 4) 2 [d, rsD rs] s) Q from key _ rfl
  intro d hd
  refine R_wp (fn := w_closed_lots) rfl rfl ?_
  subst hd
  have e0 : ∀ k : Nat, nD k = .int (k : Int) := fun _ => rfl
  have l1 : (0 : Nat) ≤ lim := by decide
  have l2 : (1 : Nat) ≤ lim := by decide
  simp only [w_closed_lots, ↓wv_var, ↓wv_con, ↓wv_glo, ↓wv_bin, ↓wv_neg, ↓wv_not, ↓wv_and, ↓wv_or, ↓wv_and1, ↓wv_andc, ↓wv_or1, ↓wv_orc, ↓wv_cmp, ↓wv_chn, ↓wv_ite, ↓wv_idx, ↓wv_slc, ↓wo_none, ↓wo_some, ↓wv_tup, ↓wv_lst, ↓wv_dnew, ↓wv_bi, ↓wv_rgl, ↓wv_mt, ↓wv_isi, ↓wv_isn, ↓wv_ntn, ↓ws_nil, ↓ws_cons, ↓wv_call, ↓wv_callk, ↓wv_lc, ↓wv_gx, ↓wp_stp, ↓wtt_nil, ↓wtt_cons, ↓wi_seq, ↓wi_rng, ↓wi_rng2, ↓Wr_int, ↓Wr2_int, ↓wx_nil, ↓seq_nx, ↓seq_rt, ↓seq_bk, ↓seq_ct, ↓wx_cons, ↓wx_asg, ↓wx_asgLc, ↓wx_par, ↓wx_sset, ↓wx_aug, ↓wx_exp, ↓wx_ret, ↓wx_retn, ↓wx_ifs, ↓wx_trn, ↓wx_fr, ↓wx_brk, ↓wx_cnt, ↓wx_pas, ↓Wp_some, ↓Wp_none, ↓Wo_some, ↓Wo_none, ↓Wx_some, ↓Wx_none, ↓Wv_some, ↓Wt_true, ↓Wt_false, ↓Wt_none, ↓Wp_bd, ↓Wp_map, ↓Wp_bind, ↓Wo_map, ↓Wo_bind, ↓Wp_if, ↓Wo_if, l_addi, l_sub, l_muli, l_mod, l_fdiv, l_addt, l_addl, l_pow18, l_iadd, l_eqi, l_nei, l_lti, l_lei, l_gti, l_gei, l_eqb, l_ixt, l_ixl, l_ix0, l_set0, l_tbl, l_tint, l_ttup, l_tlst, l_tnon, l_inti, l_intb, l_abs, l_lenl, l_lent, l_min2, l_max2, l_listl, l_listt, l_tupl, l_tupt, l_sorted, l_rgl, l_rgt, l_src_t, l_src_l, l_src_r, l_isit, l_isii, l_isiib, l_isiis, l_isiit, l_isbb, l_isbt, l_newLf, l_newLt, l_newT, l_slct, l_slcl, l_slcr, l_nm, l_tp2, List.getElem?_cons_zero, List.getElem?_cons_succ, List.set_cons_zero, List.set_cons_succ, List.length_cons, List.length_nil, List.map_cons, List.map_nil, List.cons_append, List.nil_append, List.replicate_succ, List.replicate_zero, List.append_nil, wipeD, setAll, true_and, and_true, if_true, if_false, Bool.false_eq_true, ite_true, ite_false, Option.toList_some, Option.toList_none, reduceIte, Nat.reduceAdd, Nat.reduceSub, Nat.reduceLeDiff, Nat.reduceLT, Int.reduceAdd, Int.reduceSub, Bool.not_true, Bool.not_false, ne_eq, not_true_eq_false, not_false_eq_true, gt_iff_lt, ge_iff_le, e0, l1, l2]
  refine ⟨rng_ok (by omega) (by omega), ?_⟩
  refine for_wp (fun ds env s' => ∃ k z, k ≤ n' ∧ s' = s ∧ ds = ((List.range n').drop k).map nD ∧ env = [some (.int (n' : Int)), some (rsD rs), some (.lst ((lots k).map tN)), z, none]) _ _ _ ⟨0, none, Nat.zero_le _, rfl, ?_, rfl⟩ (fun d ds env s' h => ?_) fun env s' h => ?_
  · rw [List.drop_zero, Int.toNat_natCast]
    rfl
  · obtain ⟨k, z, hk, rfl, hd, rfl⟩ := h
    obtain ⟨hk2, rfl, hd2⟩ := range_step hd
    simp only [↓wv_var, ↓wv_con, ↓wv_glo, ↓wv_bin, ↓wv_neg, ↓wv_not, ↓wv_and, ↓wv_or, ↓wv_and1, ↓wv_andc, ↓wv_or1, ↓wv_orc, ↓wv_cmp, ↓wv_chn, ↓wv_ite, ↓wv_idx, ↓wv_slc, ↓wo_none, ↓wo_some, ↓wv_tup, ↓wv_lst, ↓wv_dnew, ↓wv_bi, ↓wv_rgl, ↓wv_mt, ↓wv_isi, ↓wv_isn, ↓wv_ntn, ↓ws_nil, ↓ws_cons, ↓wv_call, ↓wv_callk, ↓wv_lc, ↓wv_gx, ↓wp_stp, ↓wtt_nil, ↓wtt_cons, ↓wi_seq, ↓wi_rng, ↓wi_rng2, ↓Wr_int, ↓Wr2_int, ↓wx_nil, ↓seq_nx, ↓seq_rt, ↓seq_bk, ↓seq_ct, ↓wx_cons, ↓wx_asg, ↓wx_asgLc, ↓wx_par, ↓wx_sset, ↓wx_aug, ↓wx_exp, ↓wx_ret, ↓wx_retn, ↓wx_ifs, ↓wx_trn, ↓wx_fr, ↓wx_brk, ↓wx_cnt, ↓wx_pas, ↓Wp_some, ↓Wp_none, ↓Wo_some, ↓Wo_none, ↓Wx_some, ↓Wx_none, ↓Wv_some, ↓Wt_true, ↓Wt_false, ↓Wt_none, ↓Wp_bd, ↓Wp_map, ↓Wp_bind, ↓Wo_map, ↓Wo_bind, ↓Wp_if, ↓Wo_if, l_addi, l_sub, l_muli, l_mod, l_fdiv, l_addt, l_addl, l_pow18, l_iadd, l_eqi, l_nei, l_lti, l_lei, l_gti, l_gei, l_eqb, l_ixt, l_ixl, l_ix0, l_set0, l_tbl, l_tint, l_ttup, l_tlst, l_tnon, l_inti, l_intb, l_abs, l_lenl, l_lent, l_min2, l_max2, l_listl, l_listt, l_tupl, l_tupt, l_sorted, l_rgl, l_rgt, l_src_t, l_src_l, l_src_r, l_isit, l_isii, l_isiib, l_isiis, l_isiit, l_isbb, l_isbt, l_newLf, l_newLt, l_newT, l_slct, l_slcl, l_slcr, l_nm, l_tp2, List.getElem?_cons_zero, List.getElem?_cons_succ, List.set_cons_zero, List.set_cons_succ, List.length_cons, List.length_nil, List.map_cons, List.map_nil, List.cons_append, List.nil_append, List.replicate_succ, List.replicate_zero, List.append_nil, wipeD, setAll, true_and, and_true, if_true, if_false, Bool.false_eq_true, ite_true, ite_false, Option.toList_some, Option.toList_none, reduceIte, Nat.reduceAdd, Nat.reduceSub, Nat.reduceLeDiff, Nat.reduceLT, Int.reduceAdd, Int.reduceSub, Bool.not_true, Bool.not_false, ne_eq, not_true_eq_false, not_false_eq_true, gt_iff_lt, ge_iff_le, e0]
    refine comp_all (addL k) rfl _ (fun d hd => ?_) ?_
    · obtain ⟨l, hl, rfl⟩ := List.mem_map.mp hd
      have hll := lots_item k hl
      have e1 : tN l = .tup (l.map nD) := rfl
      have e2 : (l.map nD).length + 1 ≤ lim := by
        rw [List.length_map]
        exact lim_big (by omega)
      simp only [↓wv_var, ↓wv_con, ↓wv_glo, ↓wv_bin, ↓wv_neg, ↓wv_not, ↓wv_and, ↓wv_or, ↓wv_and1, ↓wv_andc, ↓wv_or1, ↓wv_orc, ↓wv_cmp, ↓wv_chn, ↓wv_ite, ↓wv_idx, ↓wv_slc, ↓wo_none, ↓wo_some, ↓wv_tup, ↓wv_lst, ↓wv_dnew, ↓wv_bi, ↓wv_rgl, ↓wv_mt, ↓wv_isi, ↓wv_isn, ↓wv_ntn, ↓ws_nil, ↓ws_cons, ↓wv_call, ↓wv_callk, ↓wv_lc, ↓wv_gx, ↓wp_stp, ↓wtt_nil, ↓wtt_cons, ↓wi_seq, ↓wi_rng, ↓wi_rng2, ↓Wr_int, ↓Wr2_int, ↓wx_nil, ↓seq_nx, ↓seq_rt, ↓seq_bk, ↓seq_ct, ↓wx_cons, ↓wx_asg, ↓wx_asgLc, ↓wx_par, ↓wx_sset, ↓wx_aug, ↓wx_exp, ↓wx_ret, ↓wx_retn, ↓wx_ifs, ↓wx_trn, ↓wx_fr, ↓wx_brk, ↓wx_cnt, ↓wx_pas, ↓Wp_some, ↓Wp_none, ↓Wo_some, ↓Wo_none, ↓Wx_some, ↓Wx_none, ↓Wv_some, ↓Wt_true, ↓Wt_false, ↓Wt_none, ↓Wp_bd, ↓Wp_map, ↓Wp_bind, ↓Wo_map, ↓Wo_bind, ↓Wp_if, ↓Wo_if, l_addi, l_sub, l_muli, l_mod, l_fdiv, l_addt, l_addl, l_pow18, l_iadd, l_eqi, l_nei, l_lti, l_lei, l_gti, l_gei, l_eqb, l_ixt, l_ixl, l_ix0, l_set0, l_tbl, l_tint, l_ttup, l_tlst, l_tnon, l_inti, l_intb, l_abs, l_lenl, l_lent, l_min2, l_max2, l_listl, l_listt, l_tupl, l_tupt, l_sorted, l_rgl, l_rgt, l_src_t, l_src_l, l_src_r, l_isit, l_isii, l_isiib, l_isiis, l_isiit, l_isbb, l_isbt, l_newLf, l_newLt, l_newT, l_slct, l_slcl, l_slcr, l_nm, l_tp2, List.getElem?_cons_zero, List.getElem?_cons_succ, List.set_cons_zero, List.set_cons_succ, List.length_cons, List.length_nil, List.map_cons, List.map_nil, List.cons_append, List.nil_append, List.replicate_succ, List.replicate_zero, List.append_nil, wipeD, setAll, true_and, and_true, if_true, if_false, Bool.false_eq_true, ite_true, ite_false, Option.toList_some, Option.toList_none, reduceIte, Nat.reduceAdd, Nat.reduceSub, Nat.reduceLeDiff, Nat.reduceLT, Int.reduceAdd, Int.reduceSub, Bool.not_true, Bool.not_false, ne_eq, not_true_eq_false, not_false_eq_true, gt_iff_lt, ge_iff_le, e1, l2, e2]
      rfl
    · have h16 := lots_le (k := k) (by omega)
      have e3 : (((lots k).map tN).map (addL k)).length ≤ lim := by simpa using lim_big (by omega)
      have e4 : ((lots k).map tN ++ ((lots k).map tN).map (addL k)).length ≤ lim := by simpa using lim_big (by omega)
      simp only [↓wv_var, ↓wv_con, ↓wv_glo, ↓wv_bin, ↓wv_neg, ↓wv_not, ↓wv_and, ↓wv_or, ↓wv_and1, ↓wv_andc, ↓wv_or1, ↓wv_orc, ↓wv_cmp, ↓wv_chn, ↓wv_ite, ↓wv_idx, ↓wv_slc, ↓wo_none, ↓wo_some, ↓wv_tup, ↓wv_lst, ↓wv_dnew, ↓wv_bi, ↓wv_rgl, ↓wv_mt, ↓wv_isi, ↓wv_isn, ↓wv_ntn, ↓ws_nil, ↓ws_cons, ↓wv_call, ↓wv_callk, ↓wv_lc, ↓wv_gx, ↓wp_stp, ↓wtt_nil, ↓wtt_cons, ↓wi_seq, ↓wi_rng, ↓wi_rng2, ↓Wr_int, ↓Wr2_int, ↓wx_nil, ↓seq_nx, ↓seq_rt, ↓seq_bk, ↓seq_ct, ↓wx_cons, ↓wx_asg, ↓wx_asgLc, ↓wx_par, ↓wx_sset, ↓wx_aug, ↓wx_exp, ↓wx_ret, ↓wx_retn, ↓wx_ifs, ↓wx_trn, ↓wx_fr, ↓wx_brk, ↓wx_cnt, ↓wx_pas, ↓Wp_some, ↓Wp_none, ↓Wo_some, ↓Wo_none, ↓Wx_some, ↓Wx_none, ↓Wv_some, ↓Wt_true, ↓Wt_false, ↓Wt_none, ↓Wp_bd, ↓Wp_map, ↓Wp_bind, ↓Wo_map, ↓Wo_bind, ↓Wp_if, ↓Wo_if, l_addi, l_sub, l_muli, l_mod, l_fdiv, l_addt, l_addl, l_pow18, l_iadd, l_eqi, l_nei, l_lti, l_lei, l_gti, l_gei, l_eqb, l_ixt, l_ixl, l_ix0, l_set0, l_tbl, l_tint, l_ttup, l_tlst, l_tnon, l_inti, l_intb, l_abs, l_lenl, l_lent, l_min2, l_max2, l_listl, l_listt, l_tupl, l_tupt, l_sorted, l_rgl, l_rgt, l_src_t, l_src_l, l_src_r, l_isit, l_isii, l_isiib, l_isiis, l_isiit, l_isbb, l_isbt, l_newLf, l_newLt, l_newT, l_slct, l_slcl, l_slcr, l_nm, l_tp2, List.getElem?_cons_zero, List.getElem?_cons_succ, List.set_cons_zero, List.set_cons_succ, List.length_cons, List.length_nil, List.map_cons, List.map_nil, List.cons_append, List.nil_append, List.replicate_succ, List.replicate_zero, List.append_nil, wipeD, setAll, true_and, and_true, if_true, if_false, Bool.false_eq_true, ite_true, ite_false, Option.toList_some, Option.toList_none, reduceIte, Nat.reduceAdd, Nat.reduceSub, Nat.reduceLeDiff, Nat.reduceLT, Int.reduceAdd, Int.reduceSub, Bool.not_true, Bool.not_false, ne_eq, not_true_eq_false, not_false_eq_true, gt_iff_lt, ge_iff_le, e3, e4]
      refine ⟨rfl, k + 1, some (.int (k : Int)), hk2, hd2, ?_⟩
      rw [addL_map, ← List.map_append]
      rfl
  · obtain ⟨k, z, hk, rfl, hd, rfl⟩ := h
    have := range_end hk hd
    subst this
    simp only [↓wv_var, ↓wv_con, ↓wv_glo, ↓wv_bin, ↓wv_neg, ↓wv_not, ↓wv_and, ↓wv_or, ↓wv_and1, ↓wv_andc, ↓wv_or1, ↓wv_orc, ↓wv_cmp, ↓wv_chn, ↓wv_ite, ↓wv_idx, ↓wv_slc, ↓wo_none, ↓wo_some, ↓wv_tup, ↓wv_lst, ↓wv_dnew, ↓wv_bi, ↓wv_rgl, ↓wv_mt, ↓wv_isi, ↓wv_isn, ↓wv_ntn, ↓ws_nil, ↓ws_cons, ↓wv_call, ↓wv_callk, ↓wv_lc, ↓wv_gx, ↓wp_stp, ↓wtt_nil, ↓wtt_cons, ↓wi_seq, ↓wi_rng, ↓wi_rng2, ↓Wr_int, ↓Wr2_int, ↓wx_nil, ↓seq_nx, ↓seq_rt, ↓seq_bk, ↓seq_ct, ↓wx_cons, ↓wx_asg, ↓wx_asgLc, ↓wx_par, ↓wx_sset, ↓wx_aug, ↓wx_exp, ↓wx_ret, ↓wx_retn, ↓wx_ifs, ↓wx_trn, ↓wx_fr, ↓wx_brk, ↓wx_cnt, ↓wx_pas, ↓Wp_some, ↓Wp_none, ↓Wo_some, ↓Wo_none, ↓Wx_some, ↓Wx_none, ↓Wv_some, ↓Wt_true, ↓Wt_false, ↓Wt_none, ↓Wp_bd, ↓Wp_map, ↓Wp_bind, ↓Wo_map, ↓Wo_bind, ↓Wp_if, ↓Wo_if, l_addi, l_sub, l_muli, l_mod, l_fdiv, l_addt, l_addl, l_pow18, l_iadd, l_eqi, l_nei, l_lti, l_lei, l_gti, l_gei, l_eqb, l_ixt, l_ixl, l_ix0, l_set0, l_tbl, l_tint, l_ttup, l_tlst, l_tnon, l_inti, l_intb, l_abs, l_lenl, l_lent, l_min2, l_max2, l_listl, l_listt, l_tupl, l_tupt, l_sorted, l_rgl, l_rgt, l_src_t, l_src_l, l_src_r, l_isit, l_isii, l_isiib, l_isiis, l_isiit, l_isbb, l_isbt, l_newLf, l_newLt, l_newT, l_slct, l_slcl, l_slcr, l_nm, l_tp2, List.getElem?_cons_zero, List.getElem?_cons_succ, List.set_cons_zero, List.set_cons_succ, List.length_cons, List.length_nil, List.map_cons, List.map_nil, List.cons_append, List.nil_append, List.replicate_succ, List.replicate_zero, List.append_nil, wipeD, setAll, true_and, and_true, if_true, if_false, Bool.false_eq_true, ite_true, ite_false, Option.toList_some, Option.toList_none, reduceIte, Nat.reduceAdd, Nat.reduceSub, Nat.reduceLeDiff, Nat.reduceLT, Int.reduceAdd, Int.reduceSub, Bool.not_true, Bool.not_false, ne_eq, not_true_eq_false, not_false_eq_true, gt_iff_lt, ge_iff_le]
    let f : D → Option D := fun d => match d with
      | .tup ds => if keeps rs (ds.map fun x => match x with
          | .int i => i.toNat
          | _ => 0) = true then some d else none
      | _ => none
    have back : ∀ l : List Nat, ((l.map nD).map fun x => match x with
          | .int i => i.toNat
          | _ => 0) = l := fun l => by
      rw [List.map_map]
      exact List.map_id' l
    have fe : ∀ l : List Nat, f (tN l) = if keeps rs l = true then some (tN l) else none := fun l => by
      show (if keeps rs ((l.map nD).map fun x => match x with
          | .int i => i.toNat
          | _ => 0) = true then some (tN l) else none) = _
      rw [back]
    have fm : ((lots k).map tN).filterMap f = ((lots k).filter (keeps rs)).map tN := by
      generalize lots k = ls
      induction ls with
      | nil => rfl
      | cons l ls ih =>
        rw [List.map_cons]
        have h := fe l
        by_cases c : keeps rs l = true
        · rw [if_pos c] at h
          rw [List.filterMap_cons_some h, List.filter_cons_of_pos c, ih, List.map_cons]
        · rw [if_neg c] at h
          rw [List.filterMap_cons_none h, List.filter_cons_of_neg c, ih]
    refine comp_map f rfl _ (fun d hd => ?_) ?_
    · obtain ⟨l, hl, rfl⟩ := List.mem_map.mp hd
      rw [fe]
      simp only [↓wv_var, ↓wv_con, ↓wv_glo, ↓wv_bin, ↓wv_neg, ↓wv_not, ↓wv_and, ↓wv_or, ↓wv_and1, ↓wv_andc, ↓wv_or1, ↓wv_orc, ↓wv_cmp, ↓wv_chn, ↓wv_ite, ↓wv_idx, ↓wv_slc, ↓wo_none, ↓wo_some, ↓wv_tup, ↓wv_lst, ↓wv_dnew, ↓wv_bi, ↓wv_rgl, ↓wv_mt, ↓wv_isi, ↓wv_isn, ↓wv_ntn, ↓ws_nil, ↓ws_cons, ↓wv_call, ↓wv_callk, ↓wv_lc, ↓wv_gx, ↓wp_stp, ↓wtt_nil, ↓wtt_cons, ↓wi_seq, ↓wi_rng, ↓wi_rng2, ↓Wr_int, ↓Wr2_int, ↓wx_nil, ↓seq_nx, ↓seq_rt, ↓seq_bk, ↓seq_ct, ↓wx_cons, ↓wx_asg, ↓wx_asgLc, ↓wx_par, ↓wx_sset, ↓wx_aug, ↓wx_exp, ↓wx_ret, ↓wx_retn, ↓wx_ifs, ↓wx_trn, ↓wx_fr, ↓wx_brk, ↓wx_cnt, ↓wx_pas, ↓Wp_some, ↓Wp_none, ↓Wo_some, ↓Wo_none, ↓Wx_some, ↓Wx_none, ↓Wv_some, ↓Wt_true, ↓Wt_false, ↓Wt_none, ↓Wp_bd, ↓Wp_map, ↓Wp_bind, ↓Wo_map, ↓Wo_bind, ↓Wp_if, ↓Wo_if, l_addi, l_sub, l_muli, l_mod, l_fdiv, l_addt, l_addl, l_pow18, l_iadd, l_eqi, l_nei, l_lti, l_lei, l_gti, l_gei, l_eqb, l_ixt, l_ixl, l_ix0, l_set0, l_tbl, l_tint, l_ttup, l_tlst, l_tnon, l_inti, l_intb, l_abs, l_lenl, l_lent, l_min2, l_max2, l_listl, l_listt, l_tupl, l_tupt, l_sorted, l_rgl, l_rgt, l_src_t, l_src_l, l_src_r, l_isit, l_isii, l_isiib, l_isiis, l_isiit, l_isbb, l_isbt, l_newLf, l_newLt, l_newT, l_slct, l_slcl, l_slcr, l_nm, l_tp2, List.getElem?_cons_zero, List.getElem?_cons_succ, List.set_cons_zero, List.set_cons_succ, List.length_cons, List.length_nil, List.map_cons, List.map_nil, List.cons_append, List.nil_append, List.replicate_succ, List.replicate_zero, List.append_nil, wipeD, setAll, true_and, and_true, if_true, if_false, Bool.false_eq_true, ite_true, ite_false, Option.toList_some, Option.toList_none, reduceIte, Nat.reduceAdd, Nat.reduceSub, Nat.reduceLeDiff, Nat.reduceLT, Int.reduceAdd, Int.reduceSub, Bool.not_true, Bool.not_false, ne_eq, not_true_eq_false, not_false_eq_true, gt_iff_lt, ge_iff_le]
      refine closed_wp hr hp ?_
      by_cases c : keeps rs l = true
      · simp only [↓wv_var, ↓wv_con, ↓wv_glo, ↓wv_bin, ↓wv_neg, ↓wv_not, ↓wv_and, ↓wv_or, ↓wv_and1, ↓wv_andc, ↓wv_or1, ↓wv_orc, ↓wv_cmp, ↓wv_chn, ↓wv_ite, ↓wv_idx, ↓wv_slc, ↓wo_none, ↓wo_some, ↓wv_tup, ↓wv_lst, ↓wv_dnew, ↓wv_bi, ↓wv_rgl, ↓wv_mt, ↓wv_isi, ↓wv_isn, ↓wv_ntn, ↓ws_nil, ↓ws_cons, ↓wv_call, ↓wv_callk, ↓wv_lc, ↓wv_gx, ↓wp_stp, ↓wtt_nil, ↓wtt_cons, ↓wi_seq, ↓wi_rng, ↓wi_rng2, ↓Wr_int, ↓Wr2_int, ↓wx_nil, ↓seq_nx, ↓seq_rt, ↓seq_bk, ↓seq_ct, ↓wx_cons, ↓wx_asg, ↓wx_asgLc, ↓wx_par, ↓wx_sset, ↓wx_aug, ↓wx_exp, ↓wx_ret, ↓wx_retn, ↓wx_ifs, ↓wx_trn, ↓wx_fr, ↓wx_brk, ↓wx_cnt, ↓wx_pas, ↓Wp_some, ↓Wp_none, ↓Wo_some, ↓Wo_none, ↓Wx_some, ↓Wx_none, ↓Wv_some, ↓Wt_true, ↓Wt_false, ↓Wt_none, ↓Wp_bd, ↓Wp_map, ↓Wp_bind, ↓Wo_map, ↓Wo_bind, ↓Wp_if, ↓Wo_if, l_addi, l_sub, l_muli, l_mod, l_fdiv, l_addt, l_addl, l_pow18, l_iadd, l_eqi, l_nei, l_lti, l_lei, l_gti, l_gei, l_eqb, l_ixt, l_ixl, l_ix0, l_set0, l_tbl, l_tint, l_ttup, l_tlst, l_tnon, l_inti, l_intb, l_abs, l_lenl, l_lent, l_min2, l_max2, l_listl, l_listt, l_tupl, l_tupt, l_sorted, l_rgl, l_rgt, l_src_t, l_src_l, l_src_r, l_isit, l_isii, l_isiib, l_isiis, l_isiit, l_isbb, l_isbt, l_newLf, l_newLt, l_newT, l_slct, l_slcl, l_slcr, l_nm, l_tp2, List.getElem?_cons_zero, List.getElem?_cons_succ, List.set_cons_zero, List.set_cons_succ, List.length_cons, List.length_nil, List.map_cons, List.map_nil, List.cons_append, List.nil_append, List.replicate_succ, List.replicate_zero, List.append_nil, wipeD, setAll, true_and, and_true, if_true, if_false, Bool.false_eq_true, ite_true, ite_false, Option.toList_some, Option.toList_none, reduceIte, Nat.reduceAdd, Nat.reduceSub, Nat.reduceLeDiff, Nat.reduceLT, Int.reduceAdd, Int.reduceSub, Bool.not_true, Bool.not_false, ne_eq, not_true_eq_false, not_false_eq_true, gt_iff_lt, ge_iff_le, c]
      · rw [Bool.not_eq_true] at c
        simp only [↓wv_var, ↓wv_con, ↓wv_glo, ↓wv_bin, ↓wv_neg, ↓wv_not, ↓wv_and, ↓wv_or, ↓wv_and1, ↓wv_andc, ↓wv_or1, ↓wv_orc, ↓wv_cmp, ↓wv_chn, ↓wv_ite, ↓wv_idx, ↓wv_slc, ↓wo_none, ↓wo_some, ↓wv_tup, ↓wv_lst, ↓wv_dnew, ↓wv_bi, ↓wv_rgl, ↓wv_mt, ↓wv_isi, ↓wv_isn, ↓wv_ntn, ↓ws_nil, ↓ws_cons, ↓wv_call, ↓wv_callk, ↓wv_lc, ↓wv_gx, ↓wp_stp, ↓wtt_nil, ↓wtt_cons, ↓wi_seq, ↓wi_rng, ↓wi_rng2, ↓Wr_int, ↓Wr2_int, ↓wx_nil, ↓seq_nx, ↓seq_rt, ↓seq_bk, ↓seq_ct, ↓wx_cons, ↓wx_asg, ↓wx_asgLc, ↓wx_par, ↓wx_sset, ↓wx_aug, ↓wx_exp, ↓wx_ret, ↓wx_retn, ↓wx_ifs, ↓wx_trn, ↓wx_fr, ↓wx_brk, ↓wx_cnt, ↓wx_pas, ↓Wp_some, ↓Wp_none, ↓Wo_some, ↓Wo_none, ↓Wx_some, ↓Wx_none, ↓Wv_some, ↓Wt_true, ↓Wt_false, ↓Wt_none, ↓Wp_bd, ↓Wp_map, ↓Wp_bind, ↓Wo_map, ↓Wo_bind, ↓Wp_if, ↓Wo_if, l_addi, l_sub, l_muli, l_mod, l_fdiv, l_addt, l_addl, l_pow18, l_iadd, l_eqi, l_nei, l_lti, l_lei, l_gti, l_gei, l_eqb, l_ixt, l_ixl, l_ix0, l_set0, l_tbl, l_tint, l_ttup, l_tlst, l_tnon, l_inti, l_intb, l_abs, l_lenl, l_lent, l_min2, l_max2, l_listl, l_listt, l_tupl, l_tupt, l_sorted, l_rgl, l_rgt, l_src_t, l_src_l, l_src_r, l_isit, l_isii, l_isiib, l_isiis, l_isiit, l_isbb, l_isbt, l_newLf, l_newLt, l_newT, l_slct, l_slcl, l_slcr, l_nm, l_tp2, List.getElem?_cons_zero, List.getElem?_cons_succ, List.set_cons_zero, List.set_cons_succ, List.length_cons, List.length_nil, List.map_cons, List.map_nil, List.cons_append, List.nil_append, List.replicate_succ, List.replicate_zero, List.append_nil, wipeD, setAll, true_and, and_true, if_true, if_false, Bool.false_eq_true, ite_true, ite_false, Option.toList_some, Option.toList_none, reduceIte, Nat.reduceAdd, Nat.reduceSub, Nat.reduceLeDiff, Nat.reduceLT, Int.reduceAdd, Int.reduceSub, Bool.not_true, Bool.not_false, ne_eq, not_true_eq_false, not_false_eq_true, gt_iff_lt, ge_iff_le, c]
    · rw [fm]
      have h16 := lots_le hn
      have e3 : (((lots k).filter (keeps rs)).map tN).length ≤ lim := by
        rw [List.length_map]
        exact lim_big (Nat.le_trans (List.length_filter_le _ _) (by omega))
      have e4 : ((kept k rs).map tN).length ≤ lim := by
        rw [List.length_map]
        exact lim_big (by have := kept_len (rs := rs) hn; omega)
      have e5 := sortD_n ((lots k).filter (keeps rs))
      have e6 : srt ((lots k).filter (keeps rs)) = kept k rs := rfl
      rw [e6] at e5
      simp only [↓wv_var, ↓wv_con, ↓wv_glo, ↓wv_bin, ↓wv_neg, ↓wv_not, ↓wv_and, ↓wv_or, ↓wv_and1, ↓wv_andc, ↓wv_or1, ↓wv_orc, ↓wv_cmp, ↓wv_chn, ↓wv_ite, ↓wv_idx, ↓wv_slc, ↓wo_none, ↓wo_some, ↓wv_tup, ↓wv_lst, ↓wv_dnew, ↓wv_bi, ↓wv_rgl, ↓wv_mt, ↓wv_isi, ↓wv_isn, ↓wv_ntn, ↓ws_nil, ↓ws_cons, ↓wv_call, ↓wv_callk, ↓wv_lc, ↓wv_gx, ↓wp_stp, ↓wtt_nil, ↓wtt_cons, ↓wi_seq, ↓wi_rng, ↓wi_rng2, ↓Wr_int, ↓Wr2_int, ↓wx_nil, ↓seq_nx, ↓seq_rt, ↓seq_bk, ↓seq_ct, ↓wx_cons, ↓wx_asg, ↓wx_asgLc, ↓wx_par, ↓wx_sset, ↓wx_aug, ↓wx_exp, ↓wx_ret, ↓wx_retn, ↓wx_ifs, ↓wx_trn, ↓wx_fr, ↓wx_brk, ↓wx_cnt, ↓wx_pas, ↓Wp_some, ↓Wp_none, ↓Wo_some, ↓Wo_none, ↓Wx_some, ↓Wx_none, ↓Wv_some, ↓Wt_true, ↓Wt_false, ↓Wt_none, ↓Wp_bd, ↓Wp_map, ↓Wp_bind, ↓Wo_map, ↓Wo_bind, ↓Wp_if, ↓Wo_if, l_addi, l_sub, l_muli, l_mod, l_fdiv, l_addt, l_addl, l_pow18, l_iadd, l_eqi, l_nei, l_lti, l_lei, l_gti, l_gei, l_eqb, l_ixt, l_ixl, l_ix0, l_set0, l_tbl, l_tint, l_ttup, l_tlst, l_tnon, l_inti, l_intb, l_abs, l_lenl, l_lent, l_min2, l_max2, l_listl, l_listt, l_tupl, l_tupt, l_sorted, l_rgl, l_rgt, l_src_t, l_src_l, l_src_r, l_isit, l_isii, l_isiib, l_isiis, l_isiit, l_isbb, l_isbt, l_newLf, l_newLt, l_newT, l_slct, l_slcl, l_slcr, l_nm, l_tp2, List.getElem?_cons_zero, List.getElem?_cons_succ, List.set_cons_zero, List.set_cons_succ, List.length_cons, List.length_nil, List.map_cons, List.map_nil, List.cons_append, List.nil_append, List.replicate_succ, List.replicate_zero, List.append_nil, wipeD, setAll, true_and, and_true, if_true, if_false, Bool.false_eq_true, ite_true, ite_false, Option.toList_some, Option.toList_none, reduceIte, Nat.reduceAdd, Nat.reduceSub, Nat.reduceLeDiff, Nat.reduceLT, Int.reduceAdd, Int.reduceSub, Bool.not_true, Bool.not_false, ne_eq, not_true_eq_false, not_false_eq_true, gt_iff_lt, ge_iff_le, e3, e5, e4]
      refine fin_same ?_ q
      exact purs_all.mpr fun d hd => by
        obtain ⟨l, _, rfl⟩ := List.mem_map.mp hd
        exact purs_n l
end
end Kp

/-! k62: the law's own closed lots. Own work. -/
namespace Kp
open PySem
/-- what of a part is not in the lot -/
def outN (l : List Nat) (d : D) : Option D := match d with
  | .int i => if decide (i.toNat ∈ l) = true then none else some d
  | _ => none
theorem outN_n (l : List Nat) (k : Nat) : outN l (nD k) = if decide (k ∈ l) = true then none else some (nD k) := rfl
theorem outN_map (l p : List Nat) : (p.map nD).filterMap (outN l) = (p.filter fun x => !decide (x ∈ l)).map nD := by
  induction p with
  | nil => rfl
  | cons k p ih =>
    rw [List.map_cons]
    have h := outN_n l k
    by_cases c : decide (k ∈ l) = true
    · rw [if_pos c] at h
      rw [List.filterMap_cons_none h, List.filter_cons_of_neg (by rw [c]; decide), ih]
    · rw [if_neg c] at h
      rw [Bool.not_eq_true] at c
      rw [List.filterMap_cons_some h, List.filter_cons_of_pos (by rw [c]; rfl), ih, List.map_cons]
/-- a rule that the lot breaks -/
def bad (l : List Nat) (r : Rule) : Bool := !decide (r.2 ∈ l) && ((((r.1.filter fun x => !decide (x ∈ l)).length : Int)) == 0)
def badF (l : List Nat) (d : D) : Option D := match d with
  | .tup [.tup p, .int i] => if (!decide (i.toNat ∈ l) && ((((p.filterMap (outN l)).length : Int)) == 0)) = true then some (.int i) else none
  | _ => none
theorem badF_r (l : List Nat) (r : Rule) : badF l (rD r) = if bad l r = true then some (nD r.2) else none := by
  show (if (!decide (r.2 ∈ l) && (((((r.1.map nD).filterMap (outN l)).length : Int)) == 0)) = true then some (nD r.2) else none) = _
  rw [outN_map, List.length_map]
  rfl
theorem badF_map (l : List Nat) (rs : List Rule) : (rs.map rD).filterMap (badF l) = (rs.filter (bad l)).map fun r => nD r.2 := by
  induction rs with
  | nil => rfl
  | cons r rs ih =>
    rw [List.map_cons]
    have h := badF_r l r
    by_cases c : bad l r = true
    · rw [if_pos c] at h
      rw [List.filterMap_cons_some h, List.filter_cons_of_pos c, ih, List.map_cons]
    · rw [if_neg c] at h
      rw [List.filterMap_cons_none h, List.filter_cons_of_neg c, ih]
theorem bad_keeps (l : List Nat) (r : Rule) : bad l r = !(!(r.1.all fun x => decide (x ∈ l)) || decide (r.2 ∈ l)) := by
  unfold bad
  have e : ((((r.1.filter fun x => !decide (x ∈ l)).length : Int)) == 0) = r.1.all fun x => decide (x ∈ l) := by
    rw [Bool.eq_iff_iff, beq_iff_eq, List.all_eq_true]
    constructor
    · intro h x hx
      have h0 : (r.1.filter fun x => !decide (x ∈ l)).length = 0 := by omega
      have h1 := List.length_eq_zero_iff.mp h0
      cases c : decide (x ∈ l) with
      | true => rfl
      | false =>
        have : x ∈ r.1.filter fun x => !decide (x ∈ l) := List.mem_filter.mpr ⟨hx, by rw [c]; rfl⟩
        rw [h1] at this
        cases this
    · intro h
      have h1 : (r.1.filter fun x => !decide (x ∈ l)) = [] := by
        rw [List.filter_eq_nil_iff]
        intro x hx
        rw [h x hx]
        decide
      rw [h1]
      rfl
  rw [e]
  cases (r.1.all fun x => decide (x ∈ l)) <;> cases decide (r.2 ∈ l) <;> rfl
theorem bad_none (l : List Nat) (rs : List Rule) : (rs.filter (bad l)).isEmpty = keeps rs l := by
  unfold keeps
  rw [Bool.eq_iff_iff, List.isEmpty_iff, List.filter_eq_nil_iff, List.all_eq_true]
  constructor
  · intro h r hr
    have := h r hr
    rw [bad_keeps] at this
    revert this
    cases (!(r.1.all fun x => decide (x ∈ l)) || decide (r.2 ∈ l)) <;> intro h
    · exact absurd rfl h
    · rfl
  · intro h r hr
    rw [bad_keeps, h r hr]
    decide
theorem eq_nil {ds : List D} {s : S} (h : purs ds = true) : cmpD .eq (.lst ds) (.lst []) s = some ds.isEmpty := by
  show (if pur (.lst ds) && pur (.lst []) && decide (min (dep (.lst ds)) (dep (.lst [])) ≤ 64) then some (deq (.lst ds) (.lst [])) else none) = _
  have e1 : pur (.lst ds) = true := h
  have e2 : decide (min (dep (.lst ds)) (dep (.lst [])) ≤ 64) = true := decide_eq_true (Nat.le_trans (Nat.min_le_right _ _) (by decide))
  rw [e1, e2]
  show some (deqs ds []) = _
  cases ds <;> rfl
section
variable {n : Nat} {s : S} {Q : D → S → Prop}
theorem sort_ref {s : S} {k : Nat} {xs ys : List D} (h : s[k]? = some (.lst xs)) (hs : sortD xs = some ys) (hl : ys.length ≤ lim) : biD .sorted false [.ref k] s = some (.lst ys, s) := by
  show ((lstOf s (.ref k)).bind sortD).bind (fun xs => newL false xs s) = _
  rw [lst_at h]
  show (sortD xs).bind (fun xs => newL false xs s) = _
  rw [hs]
  show newL false ys s = _
  unfold newL
  rw [if_pos hl]
  rfl
theorem own_wp {n' : Nat} {rs : List Rule} (hn : n' ≤ 4) (hr : rs.length ≤ lim) (hp : ∀ r ∈ rs, r.1.length ≤ lim) (q : Q (ksD (kept n' rs)) s) : Wp (R G Ps (n + 1) 10 [nD n', rsD rs] s) Q := by
  refine R_wp (fn := w__law_closed) rfl rfl ?_
  have l1 : (0 : Nat) ≤ lim := by decide
  simp only [w__law_closed, ↓wv_var, ↓wv_con, ↓wv_glo, ↓wv_bin, ↓wv_neg, ↓wv_not, ↓wv_and, ↓wv_or, ↓wv_and1, ↓wv_andc, ↓wv_or1, ↓wv_orc, ↓wv_cmp, ↓wv_chn, ↓wv_ite, ↓wv_idx, ↓wv_slc, ↓wo_none, ↓wo_some, ↓wv_tup, ↓wv_lst, ↓wv_dnew, ↓wv_bi, ↓wv_rgl, ↓wv_mt, ↓wv_isi, ↓wv_isn, ↓wv_ntn, ↓ws_nil, ↓ws_cons, ↓wv_call, ↓wv_callk, ↓wv_lc, ↓wv_gx, ↓wp_stp, ↓wtt_nil, ↓wtt_cons, ↓wi_seq, ↓wi_rng, ↓wi_rng2, ↓Wr_int, ↓Wr2_int, ↓wx_nil, ↓seq_nx, ↓seq_rt, ↓seq_bk, ↓seq_ct, ↓wx_cons, ↓wx_asg, ↓wx_asgLc, ↓wx_par, ↓wx_sset, ↓wx_aug, ↓wx_exp, ↓wx_ret, ↓wx_retn, ↓wx_ifs, ↓wx_trn, ↓wx_fr, ↓wx_brk, ↓wx_cnt, ↓wx_pas, ↓Wp_some, ↓Wp_none, ↓Wo_some, ↓Wo_none, ↓Wx_some, ↓Wx_none, ↓Wv_some, ↓Wt_true, ↓Wt_false, ↓Wt_none, ↓Wp_bd, ↓Wp_map, ↓Wp_bind, ↓Wo_map, ↓Wo_bind, ↓Wp_if, ↓Wo_if, l_addi, l_sub, l_muli, l_mod, l_fdiv, l_addt, l_addl, l_pow18, l_iadd, l_eqi, l_nei, l_lti, l_lei, l_gti, l_gei, l_eqb, l_ixt, l_ixl, l_ix0, l_set0, l_tbl, l_tint, l_ttup, l_tlst, l_tnon, l_inti, l_intb, l_abs, l_lenl, l_lent, l_min2, l_max2, l_listl, l_listt, l_tupl, l_tupt, l_sorted, l_rgl, l_rgt, l_src_t, l_src_l, l_src_r, l_isit, l_isii, l_isiib, l_isiis, l_isiit, l_isbb, l_isbt, l_newLf, l_newLt, l_newT, l_slct, l_slcl, l_slcr, l_nm, l_tp2, List.getElem?_cons_zero, List.getElem?_cons_succ, List.set_cons_zero, List.set_cons_succ, List.length_cons, List.length_nil, List.map_cons, List.map_nil, List.cons_append, List.nil_append, List.replicate_succ, List.replicate_zero, List.append_nil, wipeD, setAll, true_and, and_true, if_true, if_false, Bool.false_eq_true, ite_true, ite_false, Option.toList_some, Option.toList_none, reduceIte, Nat.reduceAdd, Nat.reduceSub, Nat.reduceLeDiff, Nat.reduceLT, Int.reduceAdd, Int.reduceSub, Bool.not_true, Bool.not_false, ne_eq, not_true_eq_false, not_false_eq_true, gt_iff_lt, ge_iff_le, l1]
  refine seq_lots_wp hn ?_
  simp only [↓wv_var, ↓wv_con, ↓wv_glo, ↓wv_bin, ↓wv_neg, ↓wv_not, ↓wv_and, ↓wv_or, ↓wv_and1, ↓wv_andc, ↓wv_or1, ↓wv_orc, ↓wv_cmp, ↓wv_chn, ↓wv_ite, ↓wv_idx, ↓wv_slc, ↓wo_none, ↓wo_some, ↓wv_tup, ↓wv_lst, ↓wv_dnew, ↓wv_bi, ↓wv_rgl, ↓wv_mt, ↓wv_isi, ↓wv_isn, ↓wv_ntn, ↓ws_nil, ↓ws_cons, ↓wv_call, ↓wv_callk, ↓wv_lc, ↓wv_gx, ↓wp_stp, ↓wtt_nil, ↓wtt_cons, ↓wi_seq, ↓wi_rng, ↓wi_rng2, ↓Wr_int, ↓Wr2_int, ↓wx_nil, ↓seq_nx, ↓seq_rt, ↓seq_bk, ↓seq_ct, ↓wx_cons, ↓wx_asg, ↓wx_asgLc, ↓wx_par, ↓wx_sset, ↓wx_aug, ↓wx_exp, ↓wx_ret, ↓wx_retn, ↓wx_ifs, ↓wx_trn, ↓wx_fr, ↓wx_brk, ↓wx_cnt, ↓wx_pas, ↓Wp_some, ↓Wp_none, ↓Wo_some, ↓Wo_none, ↓Wx_some, ↓Wx_none, ↓Wv_some, ↓Wt_true, ↓Wt_false, ↓Wt_none, ↓Wp_bd, ↓Wp_map, ↓Wp_bind, ↓Wo_map, ↓Wo_bind, ↓Wp_if, ↓Wo_if, l_addi, l_sub, l_muli, l_mod, l_fdiv, l_addt, l_addl, l_pow18, l_iadd, l_eqi, l_nei, l_lti, l_lei, l_gti, l_gei, l_eqb, l_ixt, l_ixl, l_ix0, l_set0, l_tbl, l_tint, l_ttup, l_tlst, l_tnon, l_inti, l_intb, l_abs, l_lenl, l_lent, l_min2, l_max2, l_listl, l_listt, l_tupl, l_tupt, l_sorted, l_rgl, l_rgt, l_src_t, l_src_l, l_src_r, l_isit, l_isii, l_isiib, l_isiis, l_isiit, l_isbb, l_isbt, l_newLf, l_newLt, l_newT, l_slct, l_slcl, l_slcr, l_nm, l_tp2, List.getElem?_cons_zero, List.getElem?_cons_succ, List.set_cons_zero, List.set_cons_succ, List.length_cons, List.length_nil, List.map_cons, List.map_nil, List.cons_append, List.nil_append, List.replicate_succ, List.replicate_zero, List.append_nil, wipeD, setAll, true_and, and_true, if_true, if_false, Bool.false_eq_true, ite_true, ite_false, Option.toList_some, Option.toList_none, reduceIte, Nat.reduceAdd, Nat.reduceSub, Nat.reduceLeDiff, Nat.reduceLT, Int.reduceAdd, Int.reduceSub, Bool.not_true, Bool.not_false, ne_eq, not_true_eq_false, not_false_eq_true, gt_iff_lt, ge_iff_le]
  refine for_wp (fun ds env s' => ∃ done left z1 z2, lots n' = done ++ left ∧ ds = left.map tN ∧ s' = s ++ [.lst ((done.filter (keeps rs)).map tN)] ∧ env = [some (nD n'), some (rsD rs), some (.ref s.length), z1, z2, none, none, none]) _ _ _ ⟨[], lots n', none, none, rfl, rfl, rfl, rfl⟩ (fun d ds env s' h => ?_) fun env s' h => ?_
  · obtain ⟨done, left, z1, z2, e1, e2, rfl, rfl⟩ := h
    cases left with
    | nil => cases e2
    | cons l left =>
      rw [List.map_cons] at e2
      injection e2 with e2 e3
      subst e2
      have er : rsD rs = .tup (rs.map rD) := rfl
      simp only [↓wv_var, ↓wv_con, ↓wv_glo, ↓wv_bin, ↓wv_neg, ↓wv_not, ↓wv_and, ↓wv_or, ↓wv_and1, ↓wv_andc, ↓wv_or1, ↓wv_orc, ↓wv_cmp, ↓wv_chn, ↓wv_ite, ↓wv_idx, ↓wv_slc, ↓wo_none, ↓wo_some, ↓wv_tup, ↓wv_lst, ↓wv_dnew, ↓wv_bi, ↓wv_rgl, ↓wv_mt, ↓wv_isi, ↓wv_isn, ↓wv_ntn, ↓ws_nil, ↓ws_cons, ↓wv_call, ↓wv_callk, ↓wv_lc, ↓wv_gx, ↓wp_stp, ↓wtt_nil, ↓wtt_cons, ↓wi_seq, ↓wi_rng, ↓wi_rng2, ↓Wr_int, ↓Wr2_int, ↓wx_nil, ↓seq_nx, ↓seq_rt, ↓seq_bk, ↓seq_ct, ↓wx_cons, ↓wx_asg, ↓wx_asgLc, ↓wx_par, ↓wx_sset, ↓wx_aug, ↓wx_exp, ↓wx_ret, ↓wx_retn, ↓wx_ifs, ↓wx_trn, ↓wx_fr, ↓wx_brk, ↓wx_cnt, ↓wx_pas, ↓Wp_some, ↓Wp_none, ↓Wo_some, ↓Wo_none, ↓Wx_some, ↓Wx_none, ↓Wv_some, ↓Wt_true, ↓Wt_false, ↓Wt_none, ↓Wp_bd, ↓Wp_map, ↓Wp_bind, ↓Wo_map, ↓Wo_bind, ↓Wp_if, ↓Wo_if, l_addi, l_sub, l_muli, l_mod, l_fdiv, l_addt, l_addl, l_pow18, l_iadd, l_eqi, l_nei, l_lti, l_lei, l_gti, l_gei, l_eqb, l_ixt, l_ixl, l_ix0, l_set0, l_tbl, l_tint, l_ttup, l_tlst, l_tnon, l_inti, l_intb, l_abs, l_lenl, l_lent, l_min2, l_max2, l_listl, l_listt, l_tupl, l_tupt, l_sorted, l_rgl, l_rgt, l_src_t, l_src_l, l_src_r, l_isit, l_isii, l_isiib, l_isiis, l_isiit, l_isbb, l_isbt, l_newLf, l_newLt, l_newT, l_slct, l_slcl, l_slcr, l_nm, l_tp2, List.getElem?_cons_zero, List.getElem?_cons_succ, List.set_cons_zero, List.set_cons_succ, List.length_cons, List.length_nil, List.map_cons, List.map_nil, List.cons_append, List.nil_append, List.replicate_succ, List.replicate_zero, List.append_nil, wipeD, setAll, true_and, and_true, if_true, if_false, Bool.false_eq_true, ite_true, ite_false, Option.toList_some, Option.toList_none, reduceIte, Nat.reduceAdd, Nat.reduceSub, Nat.reduceLeDiff, Nat.reduceLT, Int.reduceAdd, Int.reduceSub, Bool.not_true, Bool.not_false, ne_eq, not_true_eq_false, not_false_eq_true, gt_iff_lt, ge_iff_le, er]
      refine comp_map (badF l) rfl _ (fun d hd => ?_) ?_
      · obtain ⟨r, hr2, rfl⟩ := List.mem_map.mp hd
        rw [badF_r]
        have e4 : rD r = .tup [tN r.1, nD r.2] := rfl
        have e5 : tN r.1 = .tup (r.1.map nD) := rfl
        simp only [↓wv_var, ↓wv_con, ↓wv_glo, ↓wv_bin, ↓wv_neg, ↓wv_not, ↓wv_and, ↓wv_or, ↓wv_and1, ↓wv_andc, ↓wv_or1, ↓wv_orc, ↓wv_cmp, ↓wv_chn, ↓wv_ite, ↓wv_idx, ↓wv_slc, ↓wo_none, ↓wo_some, ↓wv_tup, ↓wv_lst, ↓wv_dnew, ↓wv_bi, ↓wv_rgl, ↓wv_mt, ↓wv_isi, ↓wv_isn, ↓wv_ntn, ↓ws_nil, ↓ws_cons, ↓wv_call, ↓wv_callk, ↓wv_lc, ↓wv_gx, ↓wp_stp, ↓wtt_nil, ↓wtt_cons, ↓wi_seq, ↓wi_rng, ↓wi_rng2, ↓Wr_int, ↓Wr2_int, ↓wx_nil, ↓seq_nx, ↓seq_rt, ↓seq_bk, ↓seq_ct, ↓wx_cons, ↓wx_asg, ↓wx_asgLc, ↓wx_par, ↓wx_sset, ↓wx_aug, ↓wx_exp, ↓wx_ret, ↓wx_retn, ↓wx_ifs, ↓wx_trn, ↓wx_fr, ↓wx_brk, ↓wx_cnt, ↓wx_pas, ↓Wp_some, ↓Wp_none, ↓Wo_some, ↓Wo_none, ↓Wx_some, ↓Wx_none, ↓Wv_some, ↓Wt_true, ↓Wt_false, ↓Wt_none, ↓Wp_bd, ↓Wp_map, ↓Wp_bind, ↓Wo_map, ↓Wo_bind, ↓Wp_if, ↓Wo_if, l_addi, l_sub, l_muli, l_mod, l_fdiv, l_addt, l_addl, l_pow18, l_iadd, l_eqi, l_nei, l_lti, l_lei, l_gti, l_gei, l_eqb, l_ixt, l_ixl, l_ix0, l_set0, l_tbl, l_tint, l_ttup, l_tlst, l_tnon, l_inti, l_intb, l_abs, l_lenl, l_lent, l_min2, l_max2, l_listl, l_listt, l_tupl, l_tupt, l_sorted, l_rgl, l_rgt, l_src_t, l_src_l, l_src_r, l_isit, l_isii, l_isiib, l_isiis, l_isiit, l_isbb, l_isbt, l_newLf, l_newLt, l_newT, l_slct, l_slcl, l_slcr, l_nm, l_tp2, List.getElem?_cons_zero, List.getElem?_cons_succ, List.set_cons_zero, List.set_cons_succ, List.length_cons, List.length_nil, List.map_cons, List.map_nil, List.cons_append, List.nil_append, List.replicate_succ, List.replicate_zero, List.append_nil, wipeD, setAll, true_and, and_true, if_true, if_false, Bool.false_eq_true, ite_true, ite_false, Option.toList_some, Option.toList_none, reduceIte, Nat.reduceAdd, Nat.reduceSub, Nat.reduceLeDiff, Nat.reduceLT, Int.reduceAdd, Int.reduceSub, Bool.not_true, Bool.not_false, ne_eq, not_true_eq_false, not_false_eq_true, gt_iff_lt, ge_iff_le, e4, nin_n]
        unfold bad
        cases c : decide (r.2 ∈ l) with
        | true =>
          simp only [↓wv_var, ↓wv_con, ↓wv_glo, ↓wv_bin, ↓wv_neg, ↓wv_not, ↓wv_and, ↓wv_or, ↓wv_and1, ↓wv_andc, ↓wv_or1, ↓wv_orc, ↓wv_cmp, ↓wv_chn, ↓wv_ite, ↓wv_idx, ↓wv_slc, ↓wo_none, ↓wo_some, ↓wv_tup, ↓wv_lst, ↓wv_dnew, ↓wv_bi, ↓wv_rgl, ↓wv_mt, ↓wv_isi, ↓wv_isn, ↓wv_ntn, ↓ws_nil, ↓ws_cons, ↓wv_call, ↓wv_callk, ↓wv_lc, ↓wv_gx, ↓wp_stp, ↓wtt_nil, ↓wtt_cons, ↓wi_seq, ↓wi_rng, ↓wi_rng2, ↓Wr_int, ↓Wr2_int, ↓wx_nil, ↓seq_nx, ↓seq_rt, ↓seq_bk, ↓seq_ct, ↓wx_cons, ↓wx_asg, ↓wx_asgLc, ↓wx_par, ↓wx_sset, ↓wx_aug, ↓wx_exp, ↓wx_ret, ↓wx_retn, ↓wx_ifs, ↓wx_trn, ↓wx_fr, ↓wx_brk, ↓wx_cnt, ↓wx_pas, ↓Wp_some, ↓Wp_none, ↓Wo_some, ↓Wo_none, ↓Wx_some, ↓Wx_none, ↓Wv_some, ↓Wt_true, ↓Wt_false, ↓Wt_none, ↓Wp_bd, ↓Wp_map, ↓Wp_bind, ↓Wo_map, ↓Wo_bind, ↓Wp_if, ↓Wo_if, l_addi, l_sub, l_muli, l_mod, l_fdiv, l_addt, l_addl, l_pow18, l_iadd, l_eqi, l_nei, l_lti, l_lei, l_gti, l_gei, l_eqb, l_ixt, l_ixl, l_ix0, l_set0, l_tbl, l_tint, l_ttup, l_tlst, l_tnon, l_inti, l_intb, l_abs, l_lenl, l_lent, l_min2, l_max2, l_listl, l_listt, l_tupl, l_tupt, l_sorted, l_rgl, l_rgt, l_src_t, l_src_l, l_src_r, l_isit, l_isii, l_isiib, l_isiis, l_isiit, l_isbb, l_isbt, l_newLf, l_newLt, l_newT, l_slct, l_slcl, l_slcr, l_nm, l_tp2, List.getElem?_cons_zero, List.getElem?_cons_succ, List.set_cons_zero, List.set_cons_succ, List.length_cons, List.length_nil, List.map_cons, List.map_nil, List.cons_append, List.nil_append, List.replicate_succ, List.replicate_zero, List.append_nil, wipeD, setAll, true_and, and_true, if_true, if_false, Bool.false_eq_true, ite_true, ite_false, Option.toList_some, Option.toList_none, reduceIte, Nat.reduceAdd, Nat.reduceSub, Nat.reduceLeDiff, Nat.reduceLT, Int.reduceAdd, Int.reduceSub, Bool.not_true, Bool.not_false, ne_eq, not_true_eq_false, not_false_eq_true, gt_iff_lt, ge_iff_le, Bool.false_and]
        | false =>
          simp only [↓wv_var, ↓wv_con, ↓wv_glo, ↓wv_bin, ↓wv_neg, ↓wv_not, ↓wv_and, ↓wv_or, ↓wv_and1, ↓wv_andc, ↓wv_or1, ↓wv_orc, ↓wv_cmp, ↓wv_chn, ↓wv_ite, ↓wv_idx, ↓wv_slc, ↓wo_none, ↓wo_some, ↓wv_tup, ↓wv_lst, ↓wv_dnew, ↓wv_bi, ↓wv_rgl, ↓wv_mt, ↓wv_isi, ↓wv_isn, ↓wv_ntn, ↓ws_nil, ↓ws_cons, ↓wv_call, ↓wv_callk, ↓wv_lc, ↓wv_gx, ↓wp_stp, ↓wtt_nil, ↓wtt_cons, ↓wi_seq, ↓wi_rng, ↓wi_rng2, ↓Wr_int, ↓Wr2_int, ↓wx_nil, ↓seq_nx, ↓seq_rt, ↓seq_bk, ↓seq_ct, ↓wx_cons, ↓wx_asg, ↓wx_asgLc, ↓wx_par, ↓wx_sset, ↓wx_aug, ↓wx_exp, ↓wx_ret, ↓wx_retn, ↓wx_ifs, ↓wx_trn, ↓wx_fr, ↓wx_brk, ↓wx_cnt, ↓wx_pas, ↓Wp_some, ↓Wp_none, ↓Wo_some, ↓Wo_none, ↓Wx_some, ↓Wx_none, ↓Wv_some, ↓Wt_true, ↓Wt_false, ↓Wt_none, ↓Wp_bd, ↓Wp_map, ↓Wp_bind, ↓Wo_map, ↓Wo_bind, ↓Wp_if, ↓Wo_if, l_addi, l_sub, l_muli, l_mod, l_fdiv, l_addt, l_addl, l_pow18, l_iadd, l_eqi, l_nei, l_lti, l_lei, l_gti, l_gei, l_eqb, l_ixt, l_ixl, l_ix0, l_set0, l_tbl, l_tint, l_ttup, l_tlst, l_tnon, l_inti, l_intb, l_abs, l_lenl, l_lent, l_min2, l_max2, l_listl, l_listt, l_tupl, l_tupt, l_sorted, l_rgl, l_rgt, l_src_t, l_src_l, l_src_r, l_isit, l_isii, l_isiib, l_isiis, l_isiit, l_isbb, l_isbt, l_newLf, l_newLt, l_newT, l_slct, l_slcl, l_slcr, l_nm, l_tp2, List.getElem?_cons_zero, List.getElem?_cons_succ, List.set_cons_zero, List.set_cons_succ, List.length_cons, List.length_nil, List.map_cons, List.map_nil, List.cons_append, List.nil_append, List.replicate_succ, List.replicate_zero, List.append_nil, wipeD, setAll, true_and, and_true, if_true, if_false, Bool.false_eq_true, ite_true, ite_false, Option.toList_some, Option.toList_none, reduceIte, Nat.reduceAdd, Nat.reduceSub, Nat.reduceLeDiff, Nat.reduceLT, Int.reduceAdd, Int.reduceSub, Bool.not_true, Bool.not_false, ne_eq, not_true_eq_false, not_false_eq_true, gt_iff_lt, ge_iff_le, e5, Bool.true_and]
          refine comp_map (outN l) rfl _ (fun d hd => ?_) ?_
          · obtain ⟨x, hx, rfl⟩ := List.mem_map.mp hd
            rw [outN_n]
            simp only [↓wv_var, ↓wv_con, ↓wv_glo, ↓wv_bin, ↓wv_neg, ↓wv_not, ↓wv_and, ↓wv_or, ↓wv_and1, ↓wv_andc, ↓wv_or1, ↓wv_orc, ↓wv_cmp, ↓wv_chn, ↓wv_ite, ↓wv_idx, ↓wv_slc, ↓wo_none, ↓wo_some, ↓wv_tup, ↓wv_lst, ↓wv_dnew, ↓wv_bi, ↓wv_rgl, ↓wv_mt, ↓wv_isi, ↓wv_isn, ↓wv_ntn, ↓ws_nil, ↓ws_cons, ↓wv_call, ↓wv_callk, ↓wv_lc, ↓wv_gx, ↓wp_stp, ↓wtt_nil, ↓wtt_cons, ↓wi_seq, ↓wi_rng, ↓wi_rng2, ↓Wr_int, ↓Wr2_int, ↓wx_nil, ↓seq_nx, ↓seq_rt, ↓seq_bk, ↓seq_ct, ↓wx_cons, ↓wx_asg, ↓wx_asgLc, ↓wx_par, ↓wx_sset, ↓wx_aug, ↓wx_exp, ↓wx_ret, ↓wx_retn, ↓wx_ifs, ↓wx_trn, ↓wx_fr, ↓wx_brk, ↓wx_cnt, ↓wx_pas, ↓Wp_some, ↓Wp_none, ↓Wo_some, ↓Wo_none, ↓Wx_some, ↓Wx_none, ↓Wv_some, ↓Wt_true, ↓Wt_false, ↓Wt_none, ↓Wp_bd, ↓Wp_map, ↓Wp_bind, ↓Wo_map, ↓Wo_bind, ↓Wp_if, ↓Wo_if, l_addi, l_sub, l_muli, l_mod, l_fdiv, l_addt, l_addl, l_pow18, l_iadd, l_eqi, l_nei, l_lti, l_lei, l_gti, l_gei, l_eqb, l_ixt, l_ixl, l_ix0, l_set0, l_tbl, l_tint, l_ttup, l_tlst, l_tnon, l_inti, l_intb, l_abs, l_lenl, l_lent, l_min2, l_max2, l_listl, l_listt, l_tupl, l_tupt, l_sorted, l_rgl, l_rgt, l_src_t, l_src_l, l_src_r, l_isit, l_isii, l_isiib, l_isiis, l_isiit, l_isbb, l_isbt, l_newLf, l_newLt, l_newT, l_slct, l_slcl, l_slcr, l_nm, l_tp2, List.getElem?_cons_zero, List.getElem?_cons_succ, List.set_cons_zero, List.set_cons_succ, List.length_cons, List.length_nil, List.map_cons, List.map_nil, List.cons_append, List.nil_append, List.replicate_succ, List.replicate_zero, List.append_nil, wipeD, setAll, true_and, and_true, if_true, if_false, Bool.false_eq_true, ite_true, ite_false, Option.toList_some, Option.toList_none, reduceIte, Nat.reduceAdd, Nat.reduceSub, Nat.reduceLeDiff, Nat.reduceLT, Int.reduceAdd, Int.reduceSub, Bool.not_true, Bool.not_false, ne_eq, not_true_eq_false, not_false_eq_true, gt_iff_lt, ge_iff_le, nin_n]
            cases c2 : decide (x ∈ l) <;> simp only [↓wv_var, ↓wv_con, ↓wv_glo, ↓wv_bin, ↓wv_neg, ↓wv_not, ↓wv_and, ↓wv_or, ↓wv_and1, ↓wv_andc, ↓wv_or1, ↓wv_orc, ↓wv_cmp, ↓wv_chn, ↓wv_ite, ↓wv_idx, ↓wv_slc, ↓wo_none, ↓wo_some, ↓wv_tup, ↓wv_lst, ↓wv_dnew, ↓wv_bi, ↓wv_rgl, ↓wv_mt, ↓wv_isi, ↓wv_isn, ↓wv_ntn, ↓ws_nil, ↓ws_cons, ↓wv_call, ↓wv_callk, ↓wv_lc, ↓wv_gx, ↓wp_stp, ↓wtt_nil, ↓wtt_cons, ↓wi_seq, ↓wi_rng, ↓wi_rng2, ↓Wr_int, ↓Wr2_int, ↓wx_nil, ↓seq_nx, ↓seq_rt, ↓seq_bk, ↓seq_ct, ↓wx_cons, ↓wx_asg, ↓wx_asgLc, ↓wx_par, ↓wx_sset, ↓wx_aug, ↓wx_exp, ↓wx_ret, ↓wx_retn, ↓wx_ifs, ↓wx_trn, ↓wx_fr, ↓wx_brk, ↓wx_cnt, ↓wx_pas, ↓Wp_some, ↓Wp_none, ↓Wo_some, ↓Wo_none, ↓Wx_some, ↓Wx_none, ↓Wv_some, ↓Wt_true, ↓Wt_false, ↓Wt_none, ↓Wp_bd, ↓Wp_map, ↓Wp_bind, ↓Wo_map, ↓Wo_bind, ↓Wp_if, ↓Wo_if, l_addi, l_sub, l_muli, l_mod, l_fdiv, l_addt, l_addl, l_pow18, l_iadd, l_eqi, l_nei, l_lti, l_lei, l_gti, l_gei, l_eqb, l_ixt, l_ixl, l_ix0, l_set0, l_tbl, l_tint, l_ttup, l_tlst, l_tnon, l_inti, l_intb, l_abs, l_lenl, l_lent, l_min2, l_max2, l_listl, l_listt, l_tupl, l_tupt, l_sorted, l_rgl, l_rgt, l_src_t, l_src_l, l_src_r, l_isit, l_isii, l_isiib, l_isiis, l_isiit, l_isbb, l_isbt, l_newLf, l_newLt, l_newT, l_slct, l_slcl, l_slcr, l_nm, l_tp2, List.getElem?_cons_zero, List.getElem?_cons_succ, List.set_cons_zero, List.set_cons_succ, List.length_cons, List.length_nil, List.map_cons, List.map_nil, List.cons_append, List.nil_append, List.replicate_succ, List.replicate_zero, List.append_nil, wipeD, setAll, true_and, and_true, if_true, if_false, Bool.false_eq_true, ite_true, ite_false, Option.toList_some, Option.toList_none, reduceIte, Nat.reduceAdd, Nat.reduceSub, Nat.reduceLeDiff, Nat.reduceLT, Int.reduceAdd, Int.reduceSub, Bool.not_true, Bool.not_false, ne_eq, not_true_eq_false, not_false_eq_true, gt_iff_lt, ge_iff_le]
          · rw [outN_map]
            have e6 : ((r.1.filter fun x => !decide (x ∈ l)).map nD).length ≤ lim := by
              rw [List.length_map]
              exact Nat.le_trans (List.length_filter_le _ _) (hp r hr2)
            simp only [↓wv_var, ↓wv_con, ↓wv_glo, ↓wv_bin, ↓wv_neg, ↓wv_not, ↓wv_and, ↓wv_or, ↓wv_and1, ↓wv_andc, ↓wv_or1, ↓wv_orc, ↓wv_cmp, ↓wv_chn, ↓wv_ite, ↓wv_idx, ↓wv_slc, ↓wo_none, ↓wo_some, ↓wv_tup, ↓wv_lst, ↓wv_dnew, ↓wv_bi, ↓wv_rgl, ↓wv_mt, ↓wv_isi, ↓wv_isn, ↓wv_ntn, ↓ws_nil, ↓ws_cons, ↓wv_call, ↓wv_callk, ↓wv_lc, ↓wv_gx, ↓wp_stp, ↓wtt_nil, ↓wtt_cons, ↓wi_seq, ↓wi_rng, ↓wi_rng2, ↓Wr_int, ↓Wr2_int, ↓wx_nil, ↓seq_nx, ↓seq_rt, ↓seq_bk, ↓seq_ct, ↓wx_cons, ↓wx_asg, ↓wx_asgLc, ↓wx_par, ↓wx_sset, ↓wx_aug, ↓wx_exp, ↓wx_ret, ↓wx_retn, ↓wx_ifs, ↓wx_trn, ↓wx_fr, ↓wx_brk, ↓wx_cnt, ↓wx_pas, ↓Wp_some, ↓Wp_none, ↓Wo_some, ↓Wo_none, ↓Wx_some, ↓Wx_none, ↓Wv_some, ↓Wt_true, ↓Wt_false, ↓Wt_none, ↓Wp_bd, ↓Wp_map, ↓Wp_bind, ↓Wo_map, ↓Wo_bind, ↓Wp_if, ↓Wo_if, l_addi, l_sub, l_muli, l_mod, l_fdiv, l_addt, l_addl, l_pow18, l_iadd, l_eqi, l_nei, l_lti, l_lei, l_gti, l_gei, l_eqb, l_ixt, l_ixl, l_ix0, l_set0, l_tbl, l_tint, l_ttup, l_tlst, l_tnon, l_inti, l_intb, l_abs, l_lenl, l_lent, l_min2, l_max2, l_listl, l_listt, l_tupl, l_tupt, l_sorted, l_rgl, l_rgt, l_src_t, l_src_l, l_src_r, l_isit, l_isii, l_isiib, l_isiis, l_isiit, l_isbb, l_isbt, l_newLf, l_newLt, l_newT, l_slct, l_slcl, l_slcr, l_nm, l_tp2, List.getElem?_cons_zero, List.getElem?_cons_succ, List.set_cons_zero, List.set_cons_succ, List.length_cons, List.length_nil, List.map_cons, List.map_nil, List.cons_append, List.nil_append, List.replicate_succ, List.replicate_zero, List.append_nil, wipeD, setAll, true_and, and_true, if_true, if_false, Bool.false_eq_true, ite_true, ite_false, Option.toList_some, Option.toList_none, reduceIte, Nat.reduceAdd, Nat.reduceSub, Nat.reduceLeDiff, Nat.reduceLT, Int.reduceAdd, Int.reduceSub, Bool.not_true, Bool.not_false, ne_eq, not_true_eq_false, not_false_eq_true, gt_iff_lt, ge_iff_le, e6]
            rw [List.length_map]
            cases c2 : ((((r.1.filter fun x => !decide (x ∈ l)).length : Int)) == 0) <;> simp only [↓wv_var, ↓wv_con, ↓wv_glo, ↓wv_bin, ↓wv_neg, ↓wv_not, ↓wv_and, ↓wv_or, ↓wv_and1, ↓wv_andc, ↓wv_or1, ↓wv_orc, ↓wv_cmp, ↓wv_chn, ↓wv_ite, ↓wv_idx, ↓wv_slc, ↓wo_none, ↓wo_some, ↓wv_tup, ↓wv_lst, ↓wv_dnew, ↓wv_bi, ↓wv_rgl, ↓wv_mt, ↓wv_isi, ↓wv_isn, ↓wv_ntn, ↓ws_nil, ↓ws_cons, ↓wv_call, ↓wv_callk, ↓wv_lc, ↓wv_gx, ↓wp_stp, ↓wtt_nil, ↓wtt_cons, ↓wi_seq, ↓wi_rng, ↓wi_rng2, ↓Wr_int, ↓Wr2_int, ↓wx_nil, ↓seq_nx, ↓seq_rt, ↓seq_bk, ↓seq_ct, ↓wx_cons, ↓wx_asg, ↓wx_asgLc, ↓wx_par, ↓wx_sset, ↓wx_aug, ↓wx_exp, ↓wx_ret, ↓wx_retn, ↓wx_ifs, ↓wx_trn, ↓wx_fr, ↓wx_brk, ↓wx_cnt, ↓wx_pas, ↓Wp_some, ↓Wp_none, ↓Wo_some, ↓Wo_none, ↓Wx_some, ↓Wx_none, ↓Wv_some, ↓Wt_true, ↓Wt_false, ↓Wt_none, ↓Wp_bd, ↓Wp_map, ↓Wp_bind, ↓Wo_map, ↓Wo_bind, ↓Wp_if, ↓Wo_if, l_addi, l_sub, l_muli, l_mod, l_fdiv, l_addt, l_addl, l_pow18, l_iadd, l_eqi, l_nei, l_lti, l_lei, l_gti, l_gei, l_eqb, l_ixt, l_ixl, l_ix0, l_set0, l_tbl, l_tint, l_ttup, l_tlst, l_tnon, l_inti, l_intb, l_abs, l_lenl, l_lent, l_min2, l_max2, l_listl, l_listt, l_tupl, l_tupt, l_sorted, l_rgl, l_rgt, l_src_t, l_src_l, l_src_r, l_isit, l_isii, l_isiib, l_isiis, l_isiit, l_isbb, l_isbt, l_newLf, l_newLt, l_newT, l_slct, l_slcl, l_slcr, l_nm, l_tp2, List.getElem?_cons_zero, List.getElem?_cons_succ, List.set_cons_zero, List.set_cons_succ, List.length_cons, List.length_nil, List.map_cons, List.map_nil, List.cons_append, List.nil_append, List.replicate_succ, List.replicate_zero, List.append_nil, wipeD, setAll, true_and, and_true, if_true, if_false, Bool.false_eq_true, ite_true, ite_false, Option.toList_some, Option.toList_none, reduceIte, Nat.reduceAdd, Nat.reduceSub, Nat.reduceLeDiff, Nat.reduceLT, Int.reduceAdd, Int.reduceSub, Bool.not_true, Bool.not_false, ne_eq, not_true_eq_false, not_false_eq_true, gt_iff_lt, ge_iff_le] <;> rfl
      · rw [badF_map]
        have e6 : ((rs.filter (bad l)).map fun r => nD r.2).length ≤ lim := by
          rw [List.length_map]
          exact Nat.le_trans (List.length_filter_le _ _) hr
        have e7 : purs ((rs.filter (bad l)).map fun r => nD r.2) = true := purs_all.mpr fun d hd => by
          obtain ⟨r, _, rfl⟩ := List.mem_map.mp hd
          rfl
        have e8 := fun s => eq_nil (s := s) e7
        have e9 : ((rs.filter (bad l)).map fun r => nD r.2).isEmpty = keeps rs l := by
          rw [← bad_none]
          cases rs.filter (bad l) <;> rfl
        rw [e9] at e8
        simp only [↓wv_var, ↓wv_con, ↓wv_glo, ↓wv_bin, ↓wv_neg, ↓wv_not, ↓wv_and, ↓wv_or, ↓wv_and1, ↓wv_andc, ↓wv_or1, ↓wv_orc, ↓wv_cmp, ↓wv_chn, ↓wv_ite, ↓wv_idx, ↓wv_slc, ↓wo_none, ↓wo_some, ↓wv_tup, ↓wv_lst, ↓wv_dnew, ↓wv_bi, ↓wv_rgl, ↓wv_mt, ↓wv_isi, ↓wv_isn, ↓wv_ntn, ↓ws_nil, ↓ws_cons, ↓wv_call, ↓wv_callk, ↓wv_lc, ↓wv_gx, ↓wp_stp, ↓wtt_nil, ↓wtt_cons, ↓wi_seq, ↓wi_rng, ↓wi_rng2, ↓Wr_int, ↓Wr2_int, ↓wx_nil, ↓seq_nx, ↓seq_rt, ↓seq_bk, ↓seq_ct, ↓wx_cons, ↓wx_asg, ↓wx_asgLc, ↓wx_par, ↓wx_sset, ↓wx_aug, ↓wx_exp, ↓wx_ret, ↓wx_retn, ↓wx_ifs, ↓wx_trn, ↓wx_fr, ↓wx_brk, ↓wx_cnt, ↓wx_pas, ↓Wp_some, ↓Wp_none, ↓Wo_some, ↓Wo_none, ↓Wx_some, ↓Wx_none, ↓Wv_some, ↓Wt_true, ↓Wt_false, ↓Wt_none, ↓Wp_bd, ↓Wp_map, ↓Wp_bind, ↓Wo_map, ↓Wo_bind, ↓Wp_if, ↓Wo_if, l_addi, l_sub, l_muli, l_mod, l_fdiv, l_addt, l_addl, l_pow18, l_iadd, l_eqi, l_nei, l_lti, l_lei, l_gti, l_gei, l_eqb, l_ixt, l_ixl, l_ix0, l_set0, l_tbl, l_tint, l_ttup, l_tlst, l_tnon, l_inti, l_intb, l_abs, l_lenl, l_lent, l_min2, l_max2, l_listl, l_listt, l_tupl, l_tupt, l_sorted, l_rgl, l_rgt, l_src_t, l_src_l, l_src_r, l_isit, l_isii, l_isiib, l_isiis, l_isiit, l_isbb, l_isbt, l_newLf, l_newLt, l_newT, l_slct, l_slcl, l_slcr, l_nm, l_tp2, List.getElem?_cons_zero, List.getElem?_cons_succ, List.set_cons_zero, List.set_cons_succ, List.length_cons, List.length_nil, List.map_cons, List.map_nil, List.cons_append, List.nil_append, List.replicate_succ, List.replicate_zero, List.append_nil, wipeD, setAll, true_and, and_true, if_true, if_false, Bool.false_eq_true, ite_true, ite_false, Option.toList_some, Option.toList_none, reduceIte, Nat.reduceAdd, Nat.reduceSub, Nat.reduceLeDiff, Nat.reduceLT, Int.reduceAdd, Int.reduceSub, Bool.not_true, Bool.not_false, ne_eq, not_true_eq_false, not_false_eq_true, gt_iff_lt, ge_iff_le, e6, e8, l1]
        have h16 : done.length + 1 + left.length ≤ 16 := by
          have := lots_le hn
          rw [e1] at this
          simp at this
          omega
        have el : lots n' = (done ++ [l]) ++ left := by rw [e1]; simp
        cases c : keeps rs l with
        | true =>
          have g := app_get (s := s) (c := .lst ((done.filter (keeps rs)).map tN))
          have gl : ((done.filter (keeps rs)).map tN).length < lim := by
            rw [List.length_map]
            have := List.length_filter_le (keeps rs) done
            have : (1000 : Nat) ≤ lim := by decide
            omega
          simp only [↓wv_var, ↓wv_con, ↓wv_glo, ↓wv_bin, ↓wv_neg, ↓wv_not, ↓wv_and, ↓wv_or, ↓wv_and1, ↓wv_andc, ↓wv_or1, ↓wv_orc, ↓wv_cmp, ↓wv_chn, ↓wv_ite, ↓wv_idx, ↓wv_slc, ↓wo_none, ↓wo_some, ↓wv_tup, ↓wv_lst, ↓wv_dnew, ↓wv_bi, ↓wv_rgl, ↓wv_mt, ↓wv_isi, ↓wv_isn, ↓wv_ntn, ↓ws_nil, ↓ws_cons, ↓wv_call, ↓wv_callk, ↓wv_lc, ↓wv_gx, ↓wp_stp, ↓wtt_nil, ↓wtt_cons, ↓wi_seq, ↓wi_rng, ↓wi_rng2, ↓Wr_int, ↓Wr2_int, ↓wx_nil, ↓seq_nx, ↓seq_rt, ↓seq_bk, ↓seq_ct, ↓wx_cons, ↓wx_asg, ↓wx_asgLc, ↓wx_par, ↓wx_sset, ↓wx_aug, ↓wx_exp, ↓wx_ret, ↓wx_retn, ↓wx_ifs, ↓wx_trn, ↓wx_fr, ↓wx_brk, ↓wx_cnt, ↓wx_pas, ↓Wp_some, ↓Wp_none, ↓Wo_some, ↓Wo_none, ↓Wx_some, ↓Wx_none, ↓Wv_some, ↓Wt_true, ↓Wt_false, ↓Wt_none, ↓Wp_bd, ↓Wp_map, ↓Wp_bind, ↓Wo_map, ↓Wo_bind, ↓Wp_if, ↓Wo_if, l_addi, l_sub, l_muli, l_mod, l_fdiv, l_addt, l_addl, l_pow18, l_iadd, l_eqi, l_nei, l_lti, l_lei, l_gti, l_gei, l_eqb, l_ixt, l_ixl, l_ix0, l_set0, l_tbl, l_tint, l_ttup, l_tlst, l_tnon, l_inti, l_intb, l_abs, l_lenl, l_lent, l_min2, l_max2, l_listl, l_listt, l_tupl, l_tupt, l_sorted, l_rgl, l_rgt, l_src_t, l_src_l, l_src_r, l_isit, l_isii, l_isiib, l_isiis, l_isiit, l_isbb, l_isbt, l_newLf, l_newLt, l_newT, l_slct, l_slcl, l_slcr, l_nm, l_tp2, List.getElem?_cons_zero, List.getElem?_cons_succ, List.set_cons_zero, List.set_cons_succ, List.length_cons, List.length_nil, List.map_cons, List.map_nil, List.cons_append, List.nil_append, List.replicate_succ, List.replicate_zero, List.append_nil, wipeD, setAll, true_and, and_true, if_true, if_false, Bool.false_eq_true, ite_true, ite_false, Option.toList_some, Option.toList_none, reduceIte, Nat.reduceAdd, Nat.reduceSub, Nat.reduceLeDiff, Nat.reduceLT, Int.reduceAdd, Int.reduceSub, Bool.not_true, Bool.not_false, ne_eq, not_true_eq_false, not_false_eq_true, gt_iff_lt, ge_iff_le, go_ref (m := .append) ⟨by decide, by decide⟩ g, app_ref g gl, app_set]
          refine ⟨rfl, done ++ [l], left, some (tN l), some (.lst ((rs.filter (bad l)).map fun r => nD r.2)), el, e3, ?_, rfl⟩
          rw [List.filter_append, List.filter_cons_of_pos c, List.map_append]
          rfl
        | false =>
          simp only [↓wv_var, ↓wv_con, ↓wv_glo, ↓wv_bin, ↓wv_neg, ↓wv_not, ↓wv_and, ↓wv_or, ↓wv_and1, ↓wv_andc, ↓wv_or1, ↓wv_orc, ↓wv_cmp, ↓wv_chn, ↓wv_ite, ↓wv_idx, ↓wv_slc, ↓wo_none, ↓wo_some, ↓wv_tup, ↓wv_lst, ↓wv_dnew, ↓wv_bi, ↓wv_rgl, ↓wv_mt, ↓wv_isi, ↓wv_isn, ↓wv_ntn, ↓ws_nil, ↓ws_cons, ↓wv_call, ↓wv_callk, ↓wv_lc, ↓wv_gx, ↓wp_stp, ↓wtt_nil, ↓wtt_cons, ↓wi_seq, ↓wi_rng, ↓wi_rng2, ↓Wr_int, ↓Wr2_int, ↓wx_nil, ↓seq_nx, ↓seq_rt, ↓seq_bk, ↓seq_ct, ↓wx_cons, ↓wx_asg, ↓wx_asgLc, ↓wx_par, ↓wx_sset, ↓wx_aug, ↓wx_exp, ↓wx_ret, ↓wx_retn, ↓wx_ifs, ↓wx_trn, ↓wx_fr, ↓wx_brk, ↓wx_cnt, ↓wx_pas, ↓Wp_some, ↓Wp_none, ↓Wo_some, ↓Wo_none, ↓Wx_some, ↓Wx_none, ↓Wv_some, ↓Wt_true, ↓Wt_false, ↓Wt_none, ↓Wp_bd, ↓Wp_map, ↓Wp_bind, ↓Wo_map, ↓Wo_bind, ↓Wp_if, ↓Wo_if, l_addi, l_sub, l_muli, l_mod, l_fdiv, l_addt, l_addl, l_pow18, l_iadd, l_eqi, l_nei, l_lti, l_lei, l_gti, l_gei, l_eqb, l_ixt, l_ixl, l_ix0, l_set0, l_tbl, l_tint, l_ttup, l_tlst, l_tnon, l_inti, l_intb, l_abs, l_lenl, l_lent, l_min2, l_max2, l_listl, l_listt, l_tupl, l_tupt, l_sorted, l_rgl, l_rgt, l_src_t, l_src_l, l_src_r, l_isit, l_isii, l_isiib, l_isiis, l_isiit, l_isbb, l_isbt, l_newLf, l_newLt, l_newT, l_slct, l_slcl, l_slcr, l_nm, l_tp2, List.getElem?_cons_zero, List.getElem?_cons_succ, List.set_cons_zero, List.set_cons_succ, List.length_cons, List.length_nil, List.map_cons, List.map_nil, List.cons_append, List.nil_append, List.replicate_succ, List.replicate_zero, List.append_nil, wipeD, setAll, true_and, and_true, if_true, if_false, Bool.false_eq_true, ite_true, ite_false, Option.toList_some, Option.toList_none, reduceIte, Nat.reduceAdd, Nat.reduceSub, Nat.reduceLeDiff, Nat.reduceLT, Int.reduceAdd, Int.reduceSub, Bool.not_true, Bool.not_false, ne_eq, not_true_eq_false, not_false_eq_true, gt_iff_lt, ge_iff_le]
          refine ⟨rfl, done ++ [l], left, some (tN l), some (.lst ((rs.filter (bad l)).map fun r => nD r.2)), el, e3, ?_, rfl⟩
          rw [List.filter_append, List.filter_cons_of_neg (by rw [c]; decide), List.map_append]
          simp
  · obtain ⟨done, left, z1, z2, e1, e2, rfl, rfl⟩ := h
    have e3 : left = [] := List.map_eq_nil_iff.mp e2.symm
    subst e3
    rw [List.append_nil] at e1
    subst e1
    have g := app_get (s := s) (c := .lst (((lots n').filter (keeps rs)).map tN))
    have e5 := sortD_n ((lots n').filter (keeps rs))
    have e6 : srt ((lots n').filter (keeps rs)) = kept n' rs := rfl
    rw [e6] at e5
    have e4 : ((kept n' rs).map tN).length ≤ lim := by
      rw [List.length_map]
      exact lim_big (by have := kept_len (rs := rs) hn; omega)
    simp only [↓wv_var, ↓wv_con, ↓wv_glo, ↓wv_bin, ↓wv_neg, ↓wv_not, ↓wv_and, ↓wv_or, ↓wv_and1, ↓wv_andc, ↓wv_or1, ↓wv_orc, ↓wv_cmp, ↓wv_chn, ↓wv_ite, ↓wv_idx, ↓wv_slc, ↓wo_none, ↓wo_some, ↓wv_tup, ↓wv_lst, ↓wv_dnew, ↓wv_bi, ↓wv_rgl, ↓wv_mt, ↓wv_isi, ↓wv_isn, ↓wv_ntn, ↓ws_nil, ↓ws_cons, ↓wv_call, ↓wv_callk, ↓wv_lc, ↓wv_gx, ↓wp_stp, ↓wtt_nil, ↓wtt_cons, ↓wi_seq, ↓wi_rng, ↓wi_rng2, ↓Wr_int, ↓Wr2_int, ↓wx_nil, ↓seq_nx, ↓seq_rt, ↓seq_bk, ↓seq_ct, ↓wx_cons, ↓wx_asg, ↓wx_asgLc, ↓wx_par, ↓wx_sset, ↓wx_aug, ↓wx_exp, ↓wx_ret, ↓wx_retn, ↓wx_ifs, ↓wx_trn, ↓wx_fr, ↓wx_brk, ↓wx_cnt, ↓wx_pas, ↓Wp_some, ↓Wp_none, ↓Wo_some, ↓Wo_none, ↓Wx_some, ↓Wx_none, ↓Wv_some, ↓Wt_true, ↓Wt_false, ↓Wt_none, ↓Wp_bd, ↓Wp_map, ↓Wp_bind, ↓Wo_map, ↓Wo_bind, ↓Wp_if, ↓Wo_if, l_addi, l_sub, l_muli, l_mod, l_fdiv, l_addt, l_addl, l_pow18, l_iadd, l_eqi, l_nei, l_lti, l_lei, l_gti, l_gei, l_eqb, l_ixt, l_ixl, l_ix0, l_set0, l_tbl, l_tint, l_ttup, l_tlst, l_tnon, l_inti, l_intb, l_abs, l_lenl, l_lent, l_min2, l_max2, l_listl, l_listt, l_tupl, l_tupt, l_sorted, l_rgl, l_rgt, l_src_t, l_src_l, l_src_r, l_isit, l_isii, l_isiib, l_isiis, l_isiit, l_isbb, l_isbt, l_newLf, l_newLt, l_newT, l_slct, l_slcl, l_slcr, l_nm, l_tp2, List.getElem?_cons_zero, List.getElem?_cons_succ, List.set_cons_zero, List.set_cons_succ, List.length_cons, List.length_nil, List.map_cons, List.map_nil, List.cons_append, List.nil_append, List.replicate_succ, List.replicate_zero, List.append_nil, wipeD, setAll, true_and, and_true, if_true, if_false, Bool.false_eq_true, ite_true, ite_false, Option.toList_some, Option.toList_none, reduceIte, Nat.reduceAdd, Nat.reduceSub, Nat.reduceLeDiff, Nat.reduceLT, Int.reduceAdd, Int.reduceSub, Bool.not_true, Bool.not_false, ne_eq, not_true_eq_false, not_false_eq_true, gt_iff_lt, ge_iff_le, sort_ref g e5 e4, e4]
    refine fin_ext ?_ q
    exact purs_all.mpr fun d hd => by
      obtain ⟨l, _, rfl⟩ := List.mem_map.mp hd
      exact purs_n l
end
end Kp

/-! k62: rules that are drawn. Own work. -/
namespace Kp
open PySem
/-- the rules are of n letters -/
def WfR (n : Nat) (rs : List Rule) : Prop := ∀ r ∈ rs, r.2 < n ∧ r.1.length ≤ 4 ∧ ∀ x ∈ r.1, x < n
theorem from_n {P : Nat → Prop} : ∀ {ds : List D}, (∀ d ∈ ds, ∃ x, d = nD x ∧ P x) → ∃ ps : List Nat, ds = ps.map nD ∧ ∀ x ∈ ps, P x
  | [], _ => ⟨[], rfl, fun x hx => by cases hx⟩
  | d :: ds, h => by
    obtain ⟨x, rfl, hx⟩ := h d List.mem_cons_self
    obtain ⟨ps, rfl, hp⟩ := from_n fun d hd => h d (List.mem_cons_of_mem _ hd)
    exact ⟨x :: ps, rfl, fun y hy => (List.mem_cons.mp hy).elim (fun e => by rw [e]; exact hx) (hp y)⟩
theorem from_r {P : Rule → Prop} : ∀ {ds : List D}, (∀ d ∈ ds, ∃ x, d = rD x ∧ P x) → ∃ ps : List Rule, ds = ps.map rD ∧ ∀ x ∈ ps, P x
  | [], _ => ⟨[], rfl, fun x hx => by cases hx⟩
  | d :: ds, h => by
    obtain ⟨x, rfl, hx⟩ := h d List.mem_cons_self
    obtain ⟨ps, rfl, hp⟩ := from_r fun d hd => h d (List.mem_cons_of_mem _ hd)
    exact ⟨x :: ps, rfl, fun y hy => (List.mem_cons.mp hy).elim (fun e => by rw [e]; exact hx) (hp y)⟩
theorem sort_nums (ps : List Nat) : sortD (ps.map nD) = some ((ps.map nD).mergeSort leD) := by
  have h2 : deps (ps.map nD) ≤ 60 := by rw [deps_n]; decide
  have h3 : ((ps.map nD).all fun a => (ps.map nD).all (alk a)) = true := by
    rw [List.all_eq_true]
    intro a ha
    rw [List.all_eq_true]
    intro b hb
    obtain ⟨l, _, rfl⟩ := List.mem_map.mp ha
    obtain ⟨m, _, rfl⟩ := List.mem_map.mp hb
    rfl
  have h4 : (ps.map nD).all notT = true := by
    rw [List.all_eq_true]
    intro a ha
    obtain ⟨l, _, rfl⟩ := List.mem_map.mp ha
    rfl
  unfold sortD
  rw [purs_n, h3, h4, decide_eq_true h2, Bool.or_true]
  rfl
theorem pur_r (r : Rule) : pur (rD r) = true := by
  show (purs (r.1.map nD) && (true && true)) = true
  rw [purs_n]
  rfl
theorem purs_r (rs : List Rule) : purs (rs.map rD) = true := purs_all.mpr fun d hd => by
  obtain ⟨r, _, rfl⟩ := List.mem_map.mp hd
  exact pur_r r
theorem dep_r (r : Rule) : dep (rD r) = 2 := by
  show max (deps (r.1.map nD) + 1) (max 0 0) + 1 = 2
  rw [deps_n]
  rfl
theorem sort_rules (rs : List Rule) : sortD (rs.map rD) = some ((rs.map rD).mergeSort leD) := by
  have h2 : deps (rs.map rD) ≤ 60 := by
    have : deps (rs.map rD) ≤ 2 := by
      induction rs with
      | nil => exact Nat.zero_le _
      | cons r rs ih =>
        show max (dep (rD r)) (deps (rs.map rD)) ≤ 2
        rw [dep_r]
        omega
    omega
  have h3 : ((rs.map rD).all fun a => (rs.map rD).all (alk a)) = true := by
    rw [List.all_eq_true]
    intro a ha
    rw [List.all_eq_true]
    intro b hb
    obtain ⟨l, _, rfl⟩ := List.mem_map.mp ha
    obtain ⟨m, _, rfl⟩ := List.mem_map.mp hb
    show (alks (l.1.map nD) (m.1.map nD) && (true && true)) = true
    rw [alks_n]
    rfl
  have h4 : (rs.map rD).all isTp = true := by
    rw [List.all_eq_true]
    intro a ha
    obtain ⟨l, _, rfl⟩ := List.mem_map.mp ha
    rfl
  unfold sortD
  rw [purs_r, h3, h4, decide_eq_true h2]
  rfl
theorem kNsts_n (p : List Nat) : kNsts (p.map nD) = true := by
  induction p with
  | nil => rfl
  | cons k p ih =>
    show (true && kNsts (p.map nD)) = true
    rw [ih]
    rfl
theorem kTp_r (r : Rule) : kTp (rD r) = true := by
  show ((kNsts (r.1.map nD) && (true && true)) && decide (max (deps (r.1.map nD) + 1) (max 0 0) ≤ 7)) = true
  rw [kNsts_n, deps_n]
  rfl
def eD (r : Rule) : D × D := (rD r, .bl true)
theorem dOk_r (rs : List Rule) (r : Rule) : dOk (rs.map eD) (rD r) = true := by
  unfold dOk
  have h : ((rs.map eD).all fun p => kTp p.1) = true := by
    rw [List.all_eq_true]
    intro p hp
    obtain ⟨r', _, rfl⟩ := List.mem_map.mp hp
    exact kTp_r r'
  rw [kTp_r, h, Bool.true_and, Bool.or_true]
theorem dPut_r (rs : List Rule) (r : Rule) : dPut (rs.map eD) (rD r) (.bl true) = rs.map eD ∨ dPut (rs.map eD) (rD r) (.bl true) = (rs ++ [r]).map eD := by
  unfold dPut
  split
  · refine .inl ?_
    rw [List.map_map]
    refine List.map_congr_left fun x _ => ?_
    show (if rD x = rD r then (rD x, D.bl true) else (rD x, D.bl true)) = (rD x, D.bl true)
    split <;> rfl
  · refine .inr ?_
    rw [List.map_append]
    rfl
section
variable {n : Nat} {fl : List D} {rest : S} {Q : D → S → Prop}
theorem set_dct {s : S} {k : Nat} {kvs : Kvs} {x v : D} (h : s[k]? = some (.dct kvs)) (h1 : dOk kvs x = true) (h2 : kvs.length < lim) : setD (.ref k) x v s = some (s.set k (.dct (dPut kvs x v))) := by
  unfold setD
  simp only [h, h1, h2, and_self, if_true]
theorem list_dct {s : S} {k : Nat} {kvs : Kvs} (h : s[k]? = some (.dct kvs)) : biD .list false [.ref k] s = newL false (kvs.map fun p : D × D => p.1) s := by
  show (match dctOf s (.ref k) with
    | some (kvs : Kvs) => newL false (kvs.map fun p : D × D => p.1) s
    | none => (seqOf s (.ref k)).bind fun xs => newL false xs s) = _
  have e : dctOf s (.ref k) = some kvs := by
    show (match s[k]? with
      | some (.dct kvs) => some kvs
      | _ => none) = _
    rw [h]
  rw [e]
theorem rules_wp {n' m : Nat} (h0 : 0 < n') (hn : n' ≤ 4) (hm : m ≤ 8) (hf : Flw fl) (k : ∀ rs fl', rs.length ≤ 8 → WfR n' rs → Flw fl' → Q (rsD rs) (.lst fl' :: rest)) : Wp (R G Ps (n + 3) 11 [.ref 0, nD n', nD m] (.lst fl :: rest)) Q := by
  refine R_wp (fn := w__law_rules) rfl rfl ?_
  have e0 : ∀ k : Nat, nD k = .int (k : Int) := fun _ => rfl
  have hd : IsDraw Ps 4 := .inl rfl
  simp only [w__law_rules, ↓wv_var, ↓wv_con, ↓wv_glo, ↓wv_bin, ↓wv_neg, ↓wv_not, ↓wv_and, ↓wv_or, ↓wv_and1, ↓wv_andc, ↓wv_or1, ↓wv_orc, ↓wv_cmp, ↓wv_chn, ↓wv_ite, ↓wv_idx, ↓wv_slc, ↓wo_none, ↓wo_some, ↓wv_tup, ↓wv_lst, ↓wv_dnew, ↓wv_bi, ↓wv_rgl, ↓wv_mt, ↓wv_isi, ↓wv_isn, ↓wv_ntn, ↓ws_nil, ↓ws_cons, ↓wv_call, ↓wv_callk, ↓wv_lc, ↓wv_gx, ↓wp_stp, ↓wtt_nil, ↓wtt_cons, ↓wi_seq, ↓wi_rng, ↓wi_rng2, ↓Wr_int, ↓Wr2_int, ↓wx_nil, ↓seq_nx, ↓seq_rt, ↓seq_bk, ↓seq_ct, ↓wx_cons, ↓wx_asg, ↓wx_asgLc, ↓wx_par, ↓wx_sset, ↓wx_aug, ↓wx_exp, ↓wx_ret, ↓wx_retn, ↓wx_ifs, ↓wx_trn, ↓wx_fr, ↓wx_brk, ↓wx_cnt, ↓wx_pas, ↓Wp_some, ↓Wp_none, ↓Wo_some, ↓Wo_none, ↓Wx_some, ↓Wx_none, ↓Wv_some, ↓Wt_true, ↓Wt_false, ↓Wt_none, ↓Wp_bd, ↓Wp_map, ↓Wp_bind, ↓Wo_map, ↓Wo_bind, ↓Wp_if, ↓Wo_if, l_addi, l_sub, l_muli, l_mod, l_fdiv, l_addt, l_addl, l_pow18, l_iadd, l_eqi, l_nei, l_lti, l_lei, l_gti, l_gei, l_eqb, l_ixt, l_ixl, l_ix0, l_set0, l_tbl, l_tint, l_ttup, l_tlst, l_tnon, l_inti, l_intb, l_abs, l_lenl, l_lent, l_min2, l_max2, l_listl, l_listt, l_tupl, l_tupt, l_sorted, l_rgl, l_rgt, l_src_t, l_src_l, l_src_r, l_isit, l_isii, l_isiib, l_isiis, l_isiit, l_isbb, l_isbt, l_newLf, l_newLt, l_newT, l_slct, l_slcl, l_slcr, l_nm, l_tp2, List.getElem?_cons_zero, List.getElem?_cons_succ, List.set_cons_zero, List.set_cons_succ, List.length_cons, List.length_nil, List.map_cons, List.map_nil, List.cons_append, List.nil_append, List.replicate_succ, List.replicate_zero, List.append_nil, wipeD, setAll, true_and, and_true, if_true, if_false, Bool.false_eq_true, ite_true, ite_false, Option.toList_some, Option.toList_none, reduceIte, Nat.reduceAdd, Nat.reduceSub, Nat.reduceLeDiff, Nat.reduceLT, Int.reduceAdd, Int.reduceSub, Bool.not_true, Bool.not_false, ne_eq, not_true_eq_false, not_false_eq_true, gt_iff_lt, ge_iff_le, e0 m]
  refine ⟨rng_ok (by omega) (by omega), ?_⟩
  refine for_wp (fun ds env s' => ∃ fl' rs z1 z2 z3, Flw fl' ∧ s' = .lst fl' :: (rest ++ [.dct (rs.map eD)]) ∧ rs.length + ds.length ≤ 8 ∧ WfR n' rs ∧ env = [some (.ref 0), some (nD n'), some (.int (m : Int)), some (.ref (rest.length + 1)), z1, z2, z3, none]) _ _ _ ⟨fl, [], none, none, none, hf, rfl, by simpa using hm, fun r hr => (by cases hr), rfl⟩ (fun d ds env s' h => ?_) fun env s' h => ?_
  · obtain ⟨fl', rs, z1, z2, z3, hf', rfl, hl, hw, rfl⟩ := h
    simp only [↓wv_var, ↓wv_con, ↓wv_glo, ↓wv_bin, ↓wv_neg, ↓wv_not, ↓wv_and, ↓wv_or, ↓wv_and1, ↓wv_andc, ↓wv_or1, ↓wv_orc, ↓wv_cmp, ↓wv_chn, ↓wv_ite, ↓wv_idx, ↓wv_slc, ↓wo_none, ↓wo_some, ↓wv_tup, ↓wv_lst, ↓wv_dnew, ↓wv_bi, ↓wv_rgl, ↓wv_mt, ↓wv_isi, ↓wv_isn, ↓wv_ntn, ↓ws_nil, ↓ws_cons, ↓wv_call, ↓wv_callk, ↓wv_lc, ↓wv_gx, ↓wp_stp, ↓wtt_nil, ↓wtt_cons, ↓wi_seq, ↓wi_rng, ↓wi_rng2, ↓Wr_int, ↓Wr2_int, ↓wx_nil, ↓seq_nx, ↓seq_rt, ↓seq_bk, ↓seq_ct, ↓wx_cons, ↓wx_asg, ↓wx_asgLc, ↓wx_par, ↓wx_sset, ↓wx_aug, ↓wx_exp, ↓wx_ret, ↓wx_retn, ↓wx_ifs, ↓wx_trn, ↓wx_fr, ↓wx_brk, ↓wx_cnt, ↓wx_pas, ↓Wp_some, ↓Wp_none, ↓Wo_some, ↓Wo_none, ↓Wx_some, ↓Wx_none, ↓Wv_some, ↓Wt_true, ↓Wt_false, ↓Wt_none, ↓Wp_bd, ↓Wp_map, ↓Wp_bind, ↓Wo_map, ↓Wo_bind, ↓Wp_if, ↓Wo_if, l_addi, l_sub, l_muli, l_mod, l_fdiv, l_addt, l_addl, l_pow18, l_iadd, l_eqi, l_nei, l_lti, l_lei, l_gti, l_gei, l_eqb, l_ixt, l_ixl, l_ix0, l_set0, l_tbl, l_tint, l_ttup, l_tlst, l_tnon, l_inti, l_intb, l_abs, l_lenl, l_lent, l_min2, l_max2, l_listl, l_listt, l_tupl, l_tupt, l_sorted, l_rgl, l_rgt, l_src_t, l_src_l, l_src_r, l_isit, l_isii, l_isiib, l_isiis, l_isiit, l_isbb, l_isbt, l_newLf, l_newLt, l_newT, l_slct, l_slcl, l_slcr, l_nm, l_tp2, List.getElem?_cons_zero, List.getElem?_cons_succ, List.set_cons_zero, List.set_cons_succ, List.length_cons, List.length_nil, List.map_cons, List.map_nil, List.cons_append, List.nil_append, List.replicate_succ, List.replicate_zero, List.append_nil, wipeD, setAll, true_and, and_true, if_true, if_false, Bool.false_eq_true, ite_true, ite_false, Option.toList_some, Option.toList_none, reduceIte, Nat.reduceAdd, Nat.reduceSub, Nat.reduceLeDiff, Nat.reduceLT, Int.reduceAdd, Int.reduceSub, Bool.not_true, Bool.not_false, ne_eq, not_true_eq_false, not_false_eq_true, gt_iff_lt, ge_iff_le, e0 n']
    refine dr_wp hd hf' (by omega) (by omega) fun r fl2 r0 r1 hf2 => ?_
    have hr : r = ((r.toNat : Nat) : Int) := by omega
    have hrn : r.toNat < n' := by omega
    generalize hk : r.toNat = x at hr hrn
    subst hr
    clear hk
    simp only [↓wv_var, ↓wv_con, ↓wv_glo, ↓wv_bin, ↓wv_neg, ↓wv_not, ↓wv_and, ↓wv_or, ↓wv_and1, ↓wv_andc, ↓wv_or1, ↓wv_orc, ↓wv_cmp, ↓wv_chn, ↓wv_ite, ↓wv_idx, ↓wv_slc, ↓wo_none, ↓wo_some, ↓wv_tup, ↓wv_lst, ↓wv_dnew, ↓wv_bi, ↓wv_rgl, ↓wv_mt, ↓wv_isi, ↓wv_isn, ↓wv_ntn, ↓ws_nil, ↓ws_cons, ↓wv_call, ↓wv_callk, ↓wv_lc, ↓wv_gx, ↓wp_stp, ↓wtt_nil, ↓wtt_cons, ↓wi_seq, ↓wi_rng, ↓wi_rng2, ↓Wr_int, ↓Wr2_int, ↓wx_nil, ↓seq_nx, ↓seq_rt, ↓seq_bk, ↓seq_ct, ↓wx_cons, ↓wx_asg, ↓wx_asgLc, ↓wx_par, ↓wx_sset, ↓wx_aug, ↓wx_exp, ↓wx_ret, ↓wx_retn, ↓wx_ifs, ↓wx_trn, ↓wx_fr, ↓wx_brk, ↓wx_cnt, ↓wx_pas, ↓Wp_some, ↓Wp_none, ↓Wo_some, ↓Wo_none, ↓Wx_some, ↓Wx_none, ↓Wv_some, ↓Wt_true, ↓Wt_false, ↓Wt_none, ↓Wp_bd, ↓Wp_map, ↓Wp_bind, ↓Wo_map, ↓Wo_bind, ↓Wp_if, ↓Wo_if, l_addi, l_sub, l_muli, l_mod, l_fdiv, l_addt, l_addl, l_pow18, l_iadd, l_eqi, l_nei, l_lti, l_lei, l_gti, l_gei, l_eqb, l_ixt, l_ixl, l_ix0, l_set0, l_tbl, l_tint, l_ttup, l_tlst, l_tnon, l_inti, l_intb, l_abs, l_lenl, l_lent, l_min2, l_max2, l_listl, l_listt, l_tupl, l_tupt, l_sorted, l_rgl, l_rgt, l_src_t, l_src_l, l_src_r, l_isit, l_isii, l_isiib, l_isiis, l_isiit, l_isbb, l_isbt, l_newLf, l_newLt, l_newT, l_slct, l_slcl, l_slcr, l_nm, l_tp2, List.getElem?_cons_zero, List.getElem?_cons_succ, List.set_cons_zero, List.set_cons_succ, List.length_cons, List.length_nil, List.map_cons, List.map_nil, List.cons_append, List.nil_append, List.replicate_succ, List.replicate_zero, List.append_nil, wipeD, setAll, true_and, and_true, if_true, if_false, Bool.false_eq_true, ite_true, ite_false, Option.toList_some, Option.toList_none, reduceIte, Nat.reduceAdd, Nat.reduceSub, Nat.reduceLeDiff, Nat.reduceLT, Int.reduceAdd, Int.reduceSub, Bool.not_true, Bool.not_false, ne_eq, not_true_eq_false, not_false_eq_true, gt_iff_lt, ge_iff_le]
    refine ⟨rng_ok (by omega) (by omega), ?_⟩
    have tl : ∀ ps : List Nat, ps.length ≤ 4 → (∀ y ∈ ps, y < n') → True := fun _ _ _ => trivial
    let f : D → Option D := fun d => if (!(match d with
      | .int i => i == (x : Int)
      | _ => false)) = true then some d else none
    refine comp_map f rfl _ (fun d hd => ?_) ?_
    · obtain ⟨y, hy, rfl⟩ := List.mem_map.mp hd
      have fe : f (.int (y : Int)) = if (!((y : Int) == (x : Int))) = true then some (.int (y : Int)) else none := rfl
      rw [fe]
      simp only [↓wv_var, ↓wv_con, ↓wv_glo, ↓wv_bin, ↓wv_neg, ↓wv_not, ↓wv_and, ↓wv_or, ↓wv_and1, ↓wv_andc, ↓wv_or1, ↓wv_orc, ↓wv_cmp, ↓wv_chn, ↓wv_ite, ↓wv_idx, ↓wv_slc, ↓wo_none, ↓wo_some, ↓wv_tup, ↓wv_lst, ↓wv_dnew, ↓wv_bi, ↓wv_rgl, ↓wv_mt, ↓wv_isi, ↓wv_isn, ↓wv_ntn, ↓ws_nil, ↓ws_cons, ↓wv_call, ↓wv_callk, ↓wv_lc, ↓wv_gx, ↓wp_stp, ↓wtt_nil, ↓wtt_cons, ↓wi_seq, ↓wi_rng, ↓wi_rng2, ↓Wr_int, ↓Wr2_int, ↓wx_nil, ↓seq_nx, ↓seq_rt, ↓seq_bk, ↓seq_ct, ↓wx_cons, ↓wx_asg, ↓wx_asgLc, ↓wx_par, ↓wx_sset, ↓wx_aug, ↓wx_exp, ↓wx_ret, ↓wx_retn, ↓wx_ifs, ↓wx_trn, ↓wx_fr, ↓wx_brk, ↓wx_cnt, ↓wx_pas, ↓Wp_some, ↓Wp_none, ↓Wo_some, ↓Wo_none, ↓Wx_some, ↓Wx_none, ↓Wv_some, ↓Wt_true, ↓Wt_false, ↓Wt_none, ↓Wp_bd, ↓Wp_map, ↓Wp_bind, ↓Wo_map, ↓Wo_bind, ↓Wp_if, ↓Wo_if, l_addi, l_sub, l_muli, l_mod, l_fdiv, l_addt, l_addl, l_pow18, l_iadd, l_eqi, l_nei, l_lti, l_lei, l_gti, l_gei, l_eqb, l_ixt, l_ixl, l_ix0, l_set0, l_tbl, l_tint, l_ttup, l_tlst, l_tnon, l_inti, l_intb, l_abs, l_lenl, l_lent, l_min2, l_max2, l_listl, l_listt, l_tupl, l_tupt, l_sorted, l_rgl, l_rgt, l_src_t, l_src_l, l_src_r, l_isit, l_isii, l_isiib, l_isiis, l_isiit, l_isbb, l_isbt, l_newLf, l_newLt, l_newT, l_slct, l_slcl, l_slcr, l_nm, l_tp2, List.getElem?_cons_zero, List.getElem?_cons_succ, List.set_cons_zero, List.set_cons_succ, List.length_cons, List.length_nil, List.map_cons, List.map_nil, List.cons_append, List.nil_append, List.replicate_succ, List.replicate_zero, List.append_nil, wipeD, setAll, true_and, and_true, if_true, if_false, Bool.false_eq_true, ite_true, ite_false, Option.toList_some, Option.toList_none, reduceIte, Nat.reduceAdd, Nat.reduceSub, Nat.reduceLeDiff, Nat.reduceLT, Int.reduceAdd, Int.reduceSub, Bool.not_true, Bool.not_false, ne_eq, not_true_eq_false, not_false_eq_true, gt_iff_lt, ge_iff_le]
      cases c : ((y : Int) == (x : Int)) <;> simp only [↓wv_var, ↓wv_con, ↓wv_glo, ↓wv_bin, ↓wv_neg, ↓wv_not, ↓wv_and, ↓wv_or, ↓wv_and1, ↓wv_andc, ↓wv_or1, ↓wv_orc, ↓wv_cmp, ↓wv_chn, ↓wv_ite, ↓wv_idx, ↓wv_slc, ↓wo_none, ↓wo_some, ↓wv_tup, ↓wv_lst, ↓wv_dnew, ↓wv_bi, ↓wv_rgl, ↓wv_mt, ↓wv_isi, ↓wv_isn, ↓wv_ntn, ↓ws_nil, ↓ws_cons, ↓wv_call, ↓wv_callk, ↓wv_lc, ↓wv_gx, ↓wp_stp, ↓wtt_nil, ↓wtt_cons, ↓wi_seq, ↓wi_rng, ↓wi_rng2, ↓Wr_int, ↓Wr2_int, ↓wx_nil, ↓seq_nx, ↓seq_rt, ↓seq_bk, ↓seq_ct, ↓wx_cons, ↓wx_asg, ↓wx_asgLc, ↓wx_par, ↓wx_sset, ↓wx_aug, ↓wx_exp, ↓wx_ret, ↓wx_retn, ↓wx_ifs, ↓wx_trn, ↓wx_fr, ↓wx_brk, ↓wx_cnt, ↓wx_pas, ↓Wp_some, ↓Wp_none, ↓Wo_some, ↓Wo_none, ↓Wx_some, ↓Wx_none, ↓Wv_some, ↓Wt_true, ↓Wt_false, ↓Wt_none, ↓Wp_bd, ↓Wp_map, ↓Wp_bind, ↓Wo_map, ↓Wo_bind, ↓Wp_if, ↓Wo_if, l_addi, l_sub, l_muli, l_mod, l_fdiv, l_addt, l_addl, l_pow18, l_iadd, l_eqi, l_nei, l_lti, l_lei, l_gti, l_gei, l_eqb, l_ixt, l_ixl, l_ix0, l_set0, l_tbl, l_tint, l_ttup, l_tlst, l_tnon, l_inti, l_intb, l_abs, l_lenl, l_lent, l_min2, l_max2, l_listl, l_listt, l_tupl, l_tupt, l_sorted, l_rgl, l_rgt, l_src_t, l_src_l, l_src_r, l_isit, l_isii, l_isiib, l_isiis, l_isiit, l_isbb, l_isbt, l_newLf, l_newLt, l_newT, l_slct, l_slcl, l_slcr, l_nm, l_tp2, List.getElem?_cons_zero, List.getElem?_cons_succ, List.set_cons_zero, List.set_cons_succ, List.length_cons, List.length_nil, List.map_cons, List.map_nil, List.cons_append, List.nil_append, List.replicate_succ, List.replicate_zero, List.append_nil, wipeD, setAll, true_and, and_true, if_true, if_false, Bool.false_eq_true, ite_true, ite_false, Option.toList_some, Option.toList_none, reduceIte, Nat.reduceAdd, Nat.reduceSub, Nat.reduceLeDiff, Nat.reduceLT, Int.reduceAdd, Int.reduceSub, Bool.not_true, Bool.not_false, ne_eq, not_true_eq_false, not_false_eq_true, gt_iff_lt, ge_iff_le]
    · obtain ⟨os, ho, hos⟩ := from_n (P := fun y => y < n') (ds := ((List.range (n' : Int).toNat).map fun i => D.int (i : Nat)).filterMap f) fun d hd => by
        obtain ⟨d', hd', e⟩ := List.mem_filterMap.mp hd
        obtain ⟨y, hy, rfl⟩ := List.mem_map.mp hd'
        have fe : f (.int (y : Int)) = if (!((y : Int) == (x : Int))) = true then some (.int (y : Int)) else none := rfl
        rw [fe] at e
        split at e
        · cases e
          exact ⟨y, rfl, by simpa using hy⟩
        · cases e
      have hol : os.length ≤ 4 := by
        have h1 := congrArg List.length ho
        rw [List.length_map] at h1
        have h2 := List.length_filterMap_le f ((List.range (n' : Int).toNat).map fun i => D.int (i : Nat))
        rw [List.length_map, List.length_range] at h2
        omega
      rw [ho]
      have l1 : (os.map nD).length ≤ lim := by rw [List.length_map]; exact lim_big (by omega)
      have l1' : os.length ≤ lim := lim_big (by omega)
      simp only [↓wv_var, ↓wv_con, ↓wv_glo, ↓wv_bin, ↓wv_neg, ↓wv_not, ↓wv_and, ↓wv_or, ↓wv_and1, ↓wv_andc, ↓wv_or1, ↓wv_orc, ↓wv_cmp, ↓wv_chn, ↓wv_ite, ↓wv_idx, ↓wv_slc, ↓wo_none, ↓wo_some, ↓wv_tup, ↓wv_lst, ↓wv_dnew, ↓wv_bi, ↓wv_rgl, ↓wv_mt, ↓wv_isi, ↓wv_isn, ↓wv_ntn, ↓ws_nil, ↓ws_cons, ↓wv_call, ↓wv_callk, ↓wv_lc, ↓wv_gx, ↓wp_stp, ↓wtt_nil, ↓wtt_cons, ↓wi_seq, ↓wi_rng, ↓wi_rng2, ↓Wr_int, ↓Wr2_int, ↓wx_nil, ↓seq_nx, ↓seq_rt, ↓seq_bk, ↓seq_ct, ↓wx_cons, ↓wx_asg, ↓wx_asgLc, ↓wx_par, ↓wx_sset, ↓wx_aug, ↓wx_exp, ↓wx_ret, ↓wx_retn, ↓wx_ifs, ↓wx_trn, ↓wx_fr, ↓wx_brk, ↓wx_cnt, ↓wx_pas, ↓Wp_some, ↓Wp_none, ↓Wo_some, ↓Wo_none, ↓Wx_some, ↓Wx_none, ↓Wv_some, ↓Wt_true, ↓Wt_false, ↓Wt_none, ↓Wp_bd, ↓Wp_map, ↓Wp_bind, ↓Wo_map, ↓Wo_bind, ↓Wp_if, ↓Wo_if, l_addi, l_sub, l_muli, l_mod, l_fdiv, l_addt, l_addl, l_pow18, l_iadd, l_eqi, l_nei, l_lti, l_lei, l_gti, l_gei, l_eqb, l_ixt, l_ixl, l_ix0, l_set0, l_tbl, l_tint, l_ttup, l_tlst, l_tnon, l_inti, l_intb, l_abs, l_lenl, l_lent, l_min2, l_max2, l_listl, l_listt, l_tupl, l_tupt, l_sorted, l_rgl, l_rgt, l_src_t, l_src_l, l_src_r, l_isit, l_isii, l_isiib, l_isiis, l_isiit, l_isbb, l_isbt, l_newLf, l_newLt, l_newT, l_slct, l_slcl, l_slcr, l_nm, l_tp2, List.getElem?_cons_zero, List.getElem?_cons_succ, List.set_cons_zero, List.set_cons_succ, List.length_cons, List.length_nil, List.map_cons, List.map_nil, List.cons_append, List.nil_append, List.replicate_succ, List.replicate_zero, List.append_nil, wipeD, setAll, true_and, and_true, if_true, if_false, Bool.false_eq_true, ite_true, ite_false, Option.toList_some, Option.toList_none, reduceIte, Nat.reduceAdd, Nat.reduceSub, Nat.reduceLeDiff, Nat.reduceLT, Int.reduceAdd, Int.reduceSub, Bool.not_true, Bool.not_false, ne_eq, not_true_eq_false, not_false_eq_true, gt_iff_lt, ge_iff_le, l1', List.length_map]
      refine some_wp (fs := 6) (fd := 4) (show Ps[7]? = some (gSome 6 4) from rfl) (show Ps[6]? = some (gShuf 4) from rfl) hd hf2 l1 (purs_n os) (Int.le_refl _) (by omega) (by omega) fun es j fl3 he j0 j1 hf3 => ?_
      obtain ⟨ps, hp1, hp2⟩ := from_n (P := fun y => y < n') (ds := es.take j.toNat) fun d hd => by
        have h1 := he.mem_iff.mp (List.mem_of_mem_take hd)
        obtain ⟨y, hy, rfl⟩ := List.mem_map.mp h1
        exact ⟨y, rfl, hos y hy⟩
      have hpl : ps.length ≤ 4 := by
        have h1 := congrArg List.length hp1
        rw [List.length_map, List.length_take, he.length_eq, List.length_map] at h1
        omega
      obtain ⟨ps2, hq1, hq2⟩ := from_n (P := fun y => y < n') (ds := (ps.map nD).mergeSort leD) fun d hd => by
        rw [(List.mergeSort_perm _ _).mem_iff] at hd
        obtain ⟨y, hy, rfl⟩ := List.mem_map.mp hd
        exact ⟨y, rfl, hp2 y hy⟩
      have hql : ps2.length = ps.length := by
        have h1 := congrArg List.length hq1
        rw [(List.mergeSort_perm _ _).length_eq, List.length_map, List.length_map] at h1
        exact h1.symm
      have e2 := sort_nums ps
      rw [hq1] at e2
      rw [hp1]
      have l2 : (ps2.map nD).length ≤ lim := by rw [List.length_map]; exact lim_big (by omega)
      have l3 : (2 : Nat) ≤ lim := by decide
      have g : (C.lst fl3 :: (rest ++ [C.dct (rs.map eD)]))[rest.length + 1]? = some (.dct (rs.map eD)) := cons_get
      have l4 : (rs.map eD).length < lim := by
        rw [List.length_map]
        exact Nat.lt_of_le_of_lt (show rs.length ≤ 8 by omega) (by decide)
      have sd : setD (.ref (rest.length + 1)) (.tup [.tup (ps2.map nD), .int (x : Int)]) (.bl true) (.lst fl3 :: (rest ++ [.dct (rs.map eD)])) = some ((C.lst fl3 :: (rest ++ [C.dct (rs.map eD)])).set (rest.length + 1) (.dct (dPut (rs.map eD) (rD (ps2, x)) (.bl true)))) := set_dct g (dOk_r rs (ps2, x)) l4
      simp only [↓wv_var, ↓wv_con, ↓wv_glo, ↓wv_bin, ↓wv_neg, ↓wv_not, ↓wv_and, ↓wv_or, ↓wv_and1, ↓wv_andc, ↓wv_or1, ↓wv_orc, ↓wv_cmp, ↓wv_chn, ↓wv_ite, ↓wv_idx, ↓wv_slc, ↓wo_none, ↓wo_some, ↓wv_tup, ↓wv_lst, ↓wv_dnew, ↓wv_bi, ↓wv_rgl, ↓wv_mt, ↓wv_isi, ↓wv_isn, ↓wv_ntn, ↓ws_nil, ↓ws_cons, ↓wv_call, ↓wv_callk, ↓wv_lc, ↓wv_gx, ↓wp_stp, ↓wtt_nil, ↓wtt_cons, ↓wi_seq, ↓wi_rng, ↓wi_rng2, ↓Wr_int, ↓Wr2_int, ↓wx_nil, ↓seq_nx, ↓seq_rt, ↓seq_bk, ↓seq_ct, ↓wx_cons, ↓wx_asg, ↓wx_asgLc, ↓wx_par, ↓wx_sset, ↓wx_aug, ↓wx_exp, ↓wx_ret, ↓wx_retn, ↓wx_ifs, ↓wx_trn, ↓wx_fr, ↓wx_brk, ↓wx_cnt, ↓wx_pas, ↓Wp_some, ↓Wp_none, ↓Wo_some, ↓Wo_none, ↓Wx_some, ↓Wx_none, ↓Wv_some, ↓Wt_true, ↓Wt_false, ↓Wt_none, ↓Wp_bd, ↓Wp_map, ↓Wp_bind, ↓Wo_map, ↓Wo_bind, ↓Wp_if, ↓Wo_if, l_addi, l_sub, l_muli, l_mod, l_fdiv, l_addt, l_addl, l_pow18, l_iadd, l_eqi, l_nei, l_lti, l_lei, l_gti, l_gei, l_eqb, l_ixt, l_ixl, l_ix0, l_set0, l_tbl, l_tint, l_ttup, l_tlst, l_tnon, l_inti, l_intb, l_abs, l_lenl, l_lent, l_min2, l_max2, l_listl, l_listt, l_tupl, l_tupt, l_sorted, l_rgl, l_rgt, l_src_t, l_src_l, l_src_r, l_isit, l_isii, l_isiib, l_isiis, l_isiit, l_isbb, l_isbt, l_newLf, l_newLt, l_newT, l_slct, l_slcl, l_slcr, l_nm, l_tp2, List.getElem?_cons_zero, List.getElem?_cons_succ, List.set_cons_zero, List.set_cons_succ, List.length_cons, List.length_nil, List.map_cons, List.map_nil, List.cons_append, List.nil_append, List.replicate_succ, List.replicate_zero, List.append_nil, wipeD, setAll, true_and, and_true, if_true, if_false, Bool.false_eq_true, ite_true, ite_false, Option.toList_some, Option.toList_none, reduceIte, Nat.reduceAdd, Nat.reduceSub, Nat.reduceLeDiff, Nat.reduceLT, Int.reduceAdd, Int.reduceSub, Bool.not_true, Bool.not_false, ne_eq, not_true_eq_false, not_false_eq_true, gt_iff_lt, ge_iff_le, e2, l2, l3, sd, app_set]
      have hwr : (ps2, x).2 < n' ∧ (ps2, x).1.length ≤ 4 ∧ ∀ y ∈ (ps2, x).1, y < n' := ⟨hrn, by show ps2.length ≤ 4; omega, hq2⟩
      rcases dPut_r rs (ps2, x) with e3 | e3
      · rw [e3]
        exact ⟨rfl, fl3, rs, some d, some (.int (x : Int)), some (.lst (os.map nD)), hf3, rfl, by rw [List.length_cons] at hl; omega, hw, rfl⟩
      · rw [e3]
        refine ⟨rfl, fl3, rs ++ [(ps2, x)], some d, some (.int (x : Int)), some (.lst (os.map nD)), hf3, rfl, by rw [List.length_cons] at hl; simp; omega, fun r hr => ?_, rfl⟩
        rcases List.mem_append.mp hr with hr | hr
        · exact hw r hr
        · rw [List.mem_singleton.mp hr]
          exact hwr
  · obtain ⟨fl', rs, z1, z2, z3, hf', rfl, hl, hw, rfl⟩ := h
    have g : (C.lst fl' :: (rest ++ [C.dct (rs.map eD)]))[rest.length + 1]? = some (.dct (rs.map eD)) := cons_get
    have e1 : ((rs.map eD).map fun p : D × D => p.1) = rs.map rD := by rw [List.map_map]; rfl
    obtain ⟨rs2, h2, h3⟩ := from_r (P := fun r => r ∈ rs) (ds := (rs.map rD).mergeSort leD) fun d hd => by
      rw [(List.mergeSort_perm _ _).mem_iff] at hd
      obtain ⟨r, hr, rfl⟩ := List.mem_map.mp hd
      exact ⟨r, rfl, hr⟩
    have hl2 : rs2.length = rs.length := by
      have := congrArg List.length h2
      rw [(List.mergeSort_perm _ _).length_eq, List.length_map, List.length_map] at this
      exact this.symm
    have e2 := sort_rules rs
    rw [h2] at e2
    have l1 : (rs.map rD).length ≤ lim := by rw [List.length_map]; exact lim_big (by omega)
    have l2 : (rs2.map rD).length ≤ lim := by rw [List.length_map]; exact lim_big (by omega)
    simp only [↓wv_var, ↓wv_con, ↓wv_glo, ↓wv_bin, ↓wv_neg, ↓wv_not, ↓wv_and, ↓wv_or, ↓wv_and1, ↓wv_andc, ↓wv_or1, ↓wv_orc, ↓wv_cmp, ↓wv_chn, ↓wv_ite, ↓wv_idx, ↓wv_slc, ↓wo_none, ↓wo_some, ↓wv_tup, ↓wv_lst, ↓wv_dnew, ↓wv_bi, ↓wv_rgl, ↓wv_mt, ↓wv_isi, ↓wv_isn, ↓wv_ntn, ↓ws_nil, ↓ws_cons, ↓wv_call, ↓wv_callk, ↓wv_lc, ↓wv_gx, ↓wp_stp, ↓wtt_nil, ↓wtt_cons, ↓wi_seq, ↓wi_rng, ↓wi_rng2, ↓Wr_int, ↓Wr2_int, ↓wx_nil, ↓seq_nx, ↓seq_rt, ↓seq_bk, ↓seq_ct, ↓wx_cons, ↓wx_asg, ↓wx_asgLc, ↓wx_par, ↓wx_sset, ↓wx_aug, ↓wx_exp, ↓wx_ret, ↓wx_retn, ↓wx_ifs, ↓wx_trn, ↓wx_fr, ↓wx_brk, ↓wx_cnt, ↓wx_pas, ↓Wp_some, ↓Wp_none, ↓Wo_some, ↓Wo_none, ↓Wx_some, ↓Wx_none, ↓Wv_some, ↓Wt_true, ↓Wt_false, ↓Wt_none, ↓Wp_bd, ↓Wp_map, ↓Wp_bind, ↓Wo_map, ↓Wo_bind, ↓Wp_if, ↓Wo_if, l_addi, l_sub, l_muli, l_mod, l_fdiv, l_addt, l_addl, l_pow18, l_iadd, l_eqi, l_nei, l_lti, l_lei, l_gti, l_gei, l_eqb, l_ixt, l_ixl, l_ix0, l_set0, l_tbl, l_tint, l_ttup, l_tlst, l_tnon, l_inti, l_intb, l_abs, l_lenl, l_lent, l_min2, l_max2, l_listl, l_listt, l_tupl, l_tupt, l_sorted, l_rgl, l_rgt, l_src_t, l_src_l, l_src_r, l_isit, l_isii, l_isiib, l_isiis, l_isiit, l_isbb, l_isbt, l_newLf, l_newLt, l_newT, l_slct, l_slcl, l_slcr, l_nm, l_tp2, List.getElem?_cons_zero, List.getElem?_cons_succ, List.set_cons_zero, List.set_cons_succ, List.length_cons, List.length_nil, List.map_cons, List.map_nil, List.cons_append, List.nil_append, List.replicate_succ, List.replicate_zero, List.append_nil, wipeD, setAll, true_and, and_true, if_true, if_false, Bool.false_eq_true, ite_true, ite_false, Option.toList_some, Option.toList_none, reduceIte, Nat.reduceAdd, Nat.reduceSub, Nat.reduceLeDiff, Nat.reduceLT, Int.reduceAdd, Int.reduceSub, Bool.not_true, Bool.not_false, ne_eq, not_true_eq_false, not_false_eq_true, gt_iff_lt, ge_iff_le, list_dct g, e1, l1, e2, l2]
    exact fin_fl hf' (purs_r rs2) (k rs2 fl' (by omega) (fun r hr => hw r (h3 r hr)) hf')
end
end Kp

/-! k62: facts about lots. Own work. -/
namespace Kp
open PySem
theorem sub_one {l : List Nat} {k : Nat} (h : l.Sublist [k]) : l = [] ∨ l = [k] := by
  cases h with
  | cons _ h => exact .inl (List.sublist_nil.mp h)
  | cons_cons _ h => exact .inr (by rw [List.sublist_nil.mp h])
theorem mem_lots : ∀ (k : Nat) (l : List Nat), l ∈ lots k ↔ l.Sublist (List.range k)
  | 0, l => by
    show l ∈ [[]] ↔ l.Sublist []
    rw [List.mem_singleton, List.sublist_nil]
  | k + 1, l => by
    show l ∈ lots k ++ (lots k).map (· ++ [k]) ↔ _
    rw [List.range_succ, List.sublist_append_iff, List.mem_append, List.mem_map, mem_lots k l]
    constructor
    · rintro (h | ⟨m, h, rfl⟩)
      · exact ⟨l, [], by simp, h, List.nil_sublist _⟩
      · exact ⟨m, [k], rfl, (mem_lots k m).mp h, List.Sublist.refl _⟩
    · rintro ⟨a, b, rfl, h1, h2⟩
      rcases sub_one h2 with rfl | rfl
      · rw [List.append_nil]
        exact .inl h1
      · exact .inr ⟨a, (mem_lots k a).mpr h1, rfl⟩
theorem lots_nodup : ∀ k, (lots k).Nodup
  | 0 => List.nodup_cons.mpr ⟨(by simp), List.nodup_nil⟩
  | k + 1 => by
    show (lots k ++ (lots k).map (· ++ [k])).Nodup
    rw [List.nodup_append]
    refine ⟨lots_nodup k, ?_, fun a ha b hb e => ?_⟩
    · have h := lots_nodup k
      unfold List.Nodup at h ⊢
      rw [List.pairwise_map]
      exact h.imp fun hab e => hab (List.append_cancel_right e)
    · obtain ⟨m, hm, rfl⟩ := List.mem_map.mp hb
      subst e
      have h1 := (mem_lots k _).mp ha
      have h2 : k ∈ List.range k := h1.subset (List.mem_append.mpr (.inr List.mem_cons_self))
      simp at h2
theorem mem_kept {n : Nat} {rs : List Rule} {l : List Nat} : l ∈ kept n rs ↔ l.Sublist (List.range n) ∧ keeps rs l = true := by
  unfold kept
  rw [(srt_perm _).mem_iff, List.mem_filter, mem_lots]
theorem kept_nodup (n : Nat) (rs : List Rule) : (kept n rs).Nodup := (srt_perm _).nodup_iff.mpr ((lots_nodup n).filter _)
theorem keeps_iff {rs : List Rule} {l : List Nat} : keeps rs l = true ↔ ∀ r ∈ rs, (∀ x ∈ r.1, x ∈ l) → r.2 ∈ l := by
  unfold keeps
  rw [List.all_eq_true]
  constructor
  · intro h r hr hx
    have := h r hr
    rw [Bool.or_eq_true, Bool.not_eq_true', decide_eq_true_eq] at this
    rcases this with z | z
    · rw [Bool.eq_false_iff] at z
      exact absurd (List.all_eq_true.mpr fun x hx2 => decide_eq_true (hx x hx2)) z
    · exact z
  · intro h r hr
    rw [Bool.or_eq_true, Bool.not_eq_true', decide_eq_true_eq]
    by_cases c : (r.1.all fun x => decide (x ∈ l)) = true
    · exact .inr (h r hr fun x hx => of_decide_eq_true (List.all_eq_true.mp c x hx))
    · exact .inl (Bool.eq_false_iff.mpr c)
/-- the full lot -/
theorem full_kept {n : Nat} {rs : List Rule} (h : WfR n rs) : List.range n ∈ kept n rs :=
  mem_kept.mpr ⟨List.Sublist.refl _, keeps_iff.mpr fun r hr _ => by simpa using (h r hr).1⟩
/-- what is in both -/
theorem meet_kept {n : Nat} {rs : List Rule} {a b : List Nat} (ha : a ∈ kept n rs) (hb : b ∈ kept n rs) : (a.filter fun x => decide (x ∈ b)) ∈ kept n rs := by
  obtain ⟨a1, a2⟩ := mem_kept.mp ha
  obtain ⟨b1, b2⟩ := mem_kept.mp hb
  refine mem_kept.mpr ⟨List.filter_sublist.trans a1, keeps_iff.mpr fun r hr hx => ?_⟩
  have h1 : ∀ x ∈ r.1, x ∈ a ∧ x ∈ b := fun x h => by
    have := List.mem_filter.mp (hx x h)
    exact ⟨this.1, of_decide_eq_true this.2⟩
  exact List.mem_filter.mpr ⟨keeps_iff.mp a2 r hr fun x h => (h1 x h).1, decide_eq_true (keeps_iff.mp b2 r hr fun x h => (h1 x h).2)⟩
/-- a rule less, and asked beside -/
def askB (r : Rule) (l : List Nat) : Bool := decide (r.2 ∈ l) || decide ((0 : Int) < ((r.1.filter fun x => !decide (x ∈ l)).length : Int))
theorem ask_eq (r : Rule) (l : List Nat) : askB r l = (!(r.1.all fun x => decide (x ∈ l)) || decide (r.2 ∈ l)) := by
  have h := bad_keeps l r
  have e : bad l r = !askB r l := by
    unfold bad askB
    rw [Bool.not_or]
    congr 1
    rw [Bool.eq_iff_iff, beq_iff_eq, Bool.not_eq_true', decide_eq_false_iff_not]
    omega
  rw [e] at h
  rw [← Bool.not_not (askB r l), h, Bool.not_not]
theorem keeps_split {at' : Nat} {rs : List Rule} {r : Rule} (h : rs[at']? = some r) (l : List Nat) : keeps rs l = (keeps (rs.take at' ++ rs.drop (at' + 1)) l && askB r l) := by
  have e : rs = rs.take at' ++ r :: rs.drop (at' + 1) := by
    obtain ⟨hl, hr⟩ := List.getElem?_eq_some_iff.mp h
    rw [← hr, List.getElem_cons_drop, List.take_append_drop]
  rw [ask_eq]
  unfold keeps
  conv => lhs; rw [e]
  rw [List.all_append, List.all_append, List.all_cons]
  cases (rs.take at').all _ <;> cases (rs.drop (at' + 1)).all _ <;> simp
theorem less_kept {n at' : Nat} {rs : List Rule} {r : Rule} (h : rs[at']? = some r) : (kept n (rs.take at' ++ rs.drop (at' + 1))).filter (askB r) = kept n rs := by
  refine srt_uniq ?_ ((srt_sorted _).filter _) (srt_sorted _)
  refine List.Perm.trans ((srt_perm _).filter _) (List.Perm.trans ?_ (srt_perm _).symm)
  rw [List.filter_filter]
  refine List.Perm.of_eq (List.filter_congr fun l _ => ?_)
  rw [keeps_split h l, Bool.and_comm]
end Kp

/-! k62: other names. Own work. -/
namespace Kp
open PySem
/-- numbers, ascending, as the program sorts them -/
def srtN (l : List Nat) : List Nat := l.mergeSort fun a b => decide (a ≤ b)
theorem leD_num (a b : Nat) : leD (nD a) (nD b) = decide (a ≤ b) := by
  show (!(some (decide ((b : Int) < (a : Int)))).getD false) = _
  show (!decide ((b : Int) < (a : Int))) = _
  rw [Bool.eq_iff_iff, Bool.not_eq_true', decide_eq_false_iff_not, decide_eq_true_eq]
  omega
theorem sort_n (l : List Nat) : sortD (l.map nD) = some ((srtN l).map nD) := by
  rw [sort_nums]
  unfold srtN
  rw [List.map_mergeSort fun a _ b _ => (leD_num a b).symm]
theorem srtN_perm (l : List Nat) : (srtN l).Perm l := List.mergeSort_perm _ _
theorem srtN_sorted (l : List Nat) : (srtN l).Pairwise (· ≤ ·) := by
  have h := List.pairwise_mergeSort (le := fun a b : Nat => decide (a ≤ b)) (fun a b c h1 h2 => decide_eq_true (Nat.le_trans (of_decide_eq_true h1) (of_decide_eq_true h2))) (fun a b => by
    rcases Nat.le_total a b with h | h
    · rw [decide_eq_true h]; rfl
    · rw [Bool.or_eq_true]; exact .inr (decide_eq_true h)) l
  exact h.imp fun h => of_decide_eq_true h
theorem sorted_eq {a b : List Nat} (h : a.Perm b) (ha : a.Pairwise (· ≤ ·)) (hb : b.Pairwise (· ≤ ·)) : a = b :=
  h.eq_of_pairwise (fun _ _ _ _ h1 h2 => Nat.le_antisymm h1 h2) ha hb
/-- an ascending list of numbers below n -/
theorem sub_range {n : Nat} {l : List Nat} (hs : l.Pairwise (· ≤ ·)) (hn : l.Nodup) (hl : ∀ x ∈ l, x < n) : l.Sublist (List.range n) := by
  have h1 : (List.range n).filter (fun x => decide (x ∈ l)) = l := by
    refine sorted_eq ?_ ((List.pairwise_le_range).filter _) hs
    refine (List.perm_ext_iff_of_nodup (List.nodup_range.filter _) hn).mpr fun x => ?_
    rw [List.mem_filter, List.mem_range, decide_eq_true_eq]
    exact ⟨fun h => h.2, fun h => ⟨hl x h, h⟩⟩
  rw [← h1]
  exact List.filter_sublist
section
variable {n : Nat} {ns : List Nat} {rs : List Rule}
/-- the new name -/
def nm (ns : List Nat) (x : Nat) : Nat := ns.getD x 0
/-- a lot by new names -/
def img (ns : List Nat) (l : List Nat) : List Nat := srtN (l.map (nm ns))
def rho (ns : List Nat) (r : Rule) : Rule := (img ns r.1, nm ns r.2)
theorem nm_lt (h : ns.Perm (List.range n)) {x : Nat} (hx : x < n) : nm ns x < n := by
  have hl : ns.length = n := by rw [h.length_eq, List.length_range]
  have e : nm ns x = ns[x] := by
    unfold nm
    rw [List.getD_eq_getElem?_getD, List.getElem?_eq_getElem (by omega)]
    rfl
  rw [e]
  exact List.mem_range.mp (h.mem_iff.mp (List.getElem_mem _))
theorem nm_inj (h : ns.Perm (List.range n)) {x y : Nat} (hx : x < n) (hy : y < n) (e : nm ns x = nm ns y) : x = y := by
  have hl : ns.length = n := by rw [h.length_eq, List.length_range]
  have g : ∀ x (hx : x < n), nm ns x = ns[x]'(by omega) := fun x hx => by
    unfold nm
    rw [List.getD_eq_getElem?_getD, List.getElem?_eq_getElem (by omega)]
    rfl
  rw [g x hx, g y hy] at e
  have nd : ns.Nodup := h.nodup_iff.mpr List.nodup_range
  refine (List.getElem?_inj (show x < ns.length by omega) nd).mp ?_
  rw [List.getElem?_eq_getElem (by omega), List.getElem?_eq_getElem (by omega), e]
theorem nm_onto (h : ns.Perm (List.range n)) {y : Nat} (hy : y < n) : ∃ x, x < n ∧ nm ns x = y := by
  have hl : ns.length = n := by rw [h.length_eq, List.length_range]
  have := h.mem_iff.mpr (List.mem_range.mpr hy)
  obtain ⟨x, hx, e⟩ := List.getElem_of_mem this
  refine ⟨x, by omega, ?_⟩
  unfold nm
  rw [List.getD_eq_getElem?_getD, List.getElem?_eq_getElem hx, e]
  rfl
theorem mem_img {l : List Nat} {y : Nat} : y ∈ img ns l ↔ ∃ x ∈ l, nm ns x = y := by
  unfold img
  rw [(srtN_perm _).mem_iff, List.mem_map]
theorem img_sub (h : ns.Perm (List.range n)) {l : List Nat} (hl : l.Sublist (List.range n)) : (img ns l).Sublist (List.range n) := by
  have hlt : ∀ x ∈ l, x < n := fun x hx => List.mem_range.mp (hl.subset hx)
  refine sub_range (srtN_sorted _) ?_ fun y hy => ?_
  · rw [show img ns l = srtN (l.map (nm ns)) from rfl, (srtN_perm _).nodup_iff]
    unfold List.Nodup
    rw [List.pairwise_map]
    refine List.Pairwise.imp_of_mem (fun {a b} ha hb hab e => hab (nm_inj h (hlt a ha) (hlt b hb) e)) (List.nodup_range.sublist hl)
  · obtain ⟨x, hx, rfl⟩ := mem_img.mp hy
    exact nm_lt h (hlt x hx)
theorem img_mem (h : ns.Perm (List.range n)) {l : List Nat} (hl : ∀ x ∈ l, x < n) {x : Nat} (hx : x < n) : nm ns x ∈ img ns l ↔ x ∈ l := by
  rw [mem_img]
  exact ⟨fun ⟨y, hy, e⟩ => by rw [← nm_inj h (hl y hy) hx e]; exact hy, fun h => ⟨x, h, rfl⟩⟩
theorem img_keeps (h : ns.Perm (List.range n)) (hw : WfR n rs) {os : List Rule} (ho : ∀ r, r ∈ os ↔ ∃ q ∈ rs, rho ns q = r) {l : List Nat} (hl : ∀ x ∈ l, x < n) : keeps os (img ns l) = keeps rs l := by
  rw [Bool.eq_iff_iff, keeps_iff, keeps_iff]
  constructor
  · intro hk r hr hx
    have := hk (rho ns r) ((ho _).mpr ⟨r, hr, rfl⟩) fun y hy => by
      obtain ⟨x, hx2, rfl⟩ := mem_img.mp hy
      exact (img_mem h hl ((hw r hr).2.2 x hx2)).mpr (hx x hx2)
    exact (img_mem h hl (hw r hr).1).mp this
  · intro hk r hr hx
    obtain ⟨q, hq, rfl⟩ := (ho r).mp hr
    refine (img_mem h hl (hw q hq).1).mpr (hk q hq fun x hx2 => ?_)
    exact (img_mem h hl ((hw q hq).2.2 x hx2)).mp (hx _ (mem_img.mpr ⟨x, hx2, rfl⟩))
/-- the lots go along with the names -/
theorem led_kept (h : ns.Perm (List.range n)) (hw : WfR n rs) {os : List Rule} (ho : ∀ r, r ∈ os ↔ ∃ q ∈ rs, rho ns q = r) : kept n os = srt ((kept n rs).map (img ns)) := by
  refine srt_uniq ?_ (srt_sorted _) (srt_sorted _)
  refine List.Perm.trans ?_ (srt_perm _).symm
  have lt : ∀ {l : List Nat}, l.Sublist (List.range n) → ∀ x ∈ l, x < n := fun hl x hx => List.mem_range.mp (hl.subset hx)
  refine (List.perm_ext_iff_of_nodup (kept_nodup n os) ?_).mpr fun l => ?_
  · unfold List.Nodup
    rw [List.pairwise_map]
    refine List.Pairwise.imp_of_mem (fun {a b} ha hb hab e => hab ?_) (kept_nodup n rs)
    obtain ⟨a1, _⟩ := mem_kept.mp ha
    obtain ⟨b1, _⟩ := mem_kept.mp hb
    refine sorted_eq ((List.perm_ext_iff_of_nodup (List.nodup_range.sublist a1) (List.nodup_range.sublist b1)).mpr fun x => ?_) (List.pairwise_le_range.sublist a1) (List.pairwise_le_range.sublist b1)
    by_cases hx : x < n
    · rw [← img_mem h (lt a1) hx, ← img_mem h (lt b1) hx, e]
    · exact ⟨fun z => absurd (lt a1 x z) hx, fun z => absurd (lt b1 x z) hx⟩
  · rw [mem_kept, List.mem_map]
    constructor
    · rintro ⟨h1, h2⟩
      have hm : ((List.range n).filter fun x => decide (nm ns x ∈ l)).Sublist (List.range n) := List.filter_sublist
      have e : img ns ((List.range n).filter fun x => decide (nm ns x ∈ l)) = l := by
        have s1 := img_sub h hm
        refine sorted_eq ((List.perm_ext_iff_of_nodup (List.nodup_range.sublist s1) (List.nodup_range.sublist h1)).mpr fun y => ?_) (List.pairwise_le_range.sublist s1) (List.pairwise_le_range.sublist h1)
        rw [mem_img]
        constructor
        · rintro ⟨x, hx, rfl⟩
          exact of_decide_eq_true (List.mem_filter.mp hx).2
        · intro hy
          obtain ⟨x, hx, rfl⟩ := nm_onto h (lt h1 y hy)
          exact ⟨x, List.mem_filter.mpr ⟨List.mem_range.mpr hx, decide_eq_true hy⟩, rfl⟩
      refine ⟨_, mem_kept.mpr ⟨hm, ?_⟩, e⟩
      rw [← img_keeps h hw ho (lt hm), e]
      exact h2
    · rintro ⟨m, hm, rfl⟩
      obtain ⟨m1, m2⟩ := mem_kept.mp hm
      exact ⟨img_sub h m1, by rw [img_keeps h hw ho (lt m1)]; exact m2⟩
end
end Kp

/-! k62: parts of the law's turn. Own work. -/
namespace Kp
open PySem
theorem deqs_n : ∀ a b : List Nat, deqs (a.map nD) (b.map nD) = decide (a = b)
  | [], [] => rfl
  | [], y :: b => by rw [decide_eq_false (by simp)]; rfl
  | x :: a, [] => by rw [decide_eq_false (by simp)]; rfl
  | x :: a, y :: b => by
    show (((x : Int) == (y : Int)) && deqs (a.map nD) (b.map nD)) = _
    rw [deqs_n a b, Bool.eq_iff_iff, Bool.and_eq_true, beq_iff_eq, decide_eq_true_eq, decide_eq_true_eq, List.cons.injEq]
    exact ⟨fun h => ⟨Int.ofNat.inj h.1, h.2⟩, fun h => ⟨by rw [h.1], h.2⟩⟩
theorem nin_ks {l : List Nat} {ls : List (List Nat)} {s : S} : cmpD .notin (.tup (l.map nD)) (ksD ls) s = some (!decide (l ∈ ls)) := by
  have h1 : purs (ls.map tN) = true := purs_all.mpr fun d hd => by
    obtain ⟨l, _, rfl⟩ := List.mem_map.mp hd
    exact purs_n l
  have h2 : ((ls.map tN).any fun z => deq z (.tup (l.map nD))) = decide (l ∈ ls) := by
    rw [Bool.eq_iff_iff, List.any_eq_true, decide_eq_true_eq]
    constructor
    · rintro ⟨d, hd, e⟩
      obtain ⟨m, hm, rfl⟩ := List.mem_map.mp hd
      have e : deqs (m.map nD) (l.map nD) = true := e
      rw [deqs_n, decide_eq_true_eq] at e
      rw [← e]
      exact hm
    · intro h
      refine ⟨tN l, List.mem_map.mpr ⟨l, h, rfl⟩, ?_⟩
      show deqs (l.map nD) (l.map nD) = true
      rw [deqs_n, decide_eq_true rfl]
  have h3 : pur (.tup (l.map nD)) = true := purs_n l
  have h4 : decide (dep (.tup (l.map nD)) ≤ 60) = true := by
    show decide (deps (l.map nD) + 1 ≤ 60) = true
    rw [deps_n]
    rfl
  show (if pur (.tup (l.map nD)) && purs (ls.map tN) && decide (dep (.tup (l.map nD)) ≤ 60) then some ((ls.map tN).any fun z => deq z (.tup (l.map nD))) else none).map (!·) = _
  rw [h1, h2, h3, h4]
  rfl
theorem map_nD_inj {a b : List Nat} (h : (a.map nD).Perm (b.map nD)) : a.Perm b := by
  have g : ∀ l : List Nat, ((l.map nD).map fun d => match d with
      | .int i => i.toNat
      | _ => 0) = l := fun l => by
    rw [List.map_map]
    exact List.map_id' l
  have := h.map fun d => match d with
      | .int i => i.toNat
      | _ => 0
  rw [g, g] at this
  exact this
theorem rD_inj {a b : Rule} (h : rD a = rD b) : a = b := by
  obtain ⟨p, l⟩ := a
  obtain ⟨q, m⟩ := b
  have h : D.tup [.tup (p.map nD), .int (l : Int)] = D.tup [.tup (q.map nD), .int (m : Int)] := h
  injection h with h
  injection h with h1 h2
  injection h2 with h2 _
  injection h1 with h1
  injection h2 with h2
  have e1 : p = q := by
    have : deqs (p.map nD) (q.map nD) = deqs (q.map nD) (q.map nD) := by rw [h1]
    rw [deqs_n, deqs_n, decide_eq_true rfl] at this
    exact of_decide_eq_true this
  rw [e1, Int.ofNat.inj h2]
section
variable {m n' : Nat} {rs : List Rule} {s : S} {K : D → S → Prop}
/-- both ways of asking -/
theorem told_fork {b : Bool} {env : Env} (hn : n' ≤ 4) (hr : rs.length ≤ lim) (hp : ∀ r ∈ rs, r.1.length ≤ lim) (e3 : env[3]? = some (some (nD n'))) (e4 : env[4]? = some (some (rsD rs))) (q : K (ksD (kept n' rs)) s) :
    Wt (some b) (Wp (ev G (calls G Ps (m + 5)) (.call 2 (.cons (.var 3) (.cons (.var 4) .nil))) env s) K) (Wp (ev G (calls G Ps (m + 5)) (.callk 2 .nil (.cons (.var 4) (.cons (.var 3) .nil)) ["rules", "n"] [1, 0]) env s) K) := by
  have hpd : permD ([] ++ [rsD rs, nD n']) [1, 0] = some [nD n', rsD rs] := rfl
  refine Wt_some (fun _ => ?_) fun _ => ?_
  · simp only [↓wv_var, ↓wv_con, ↓wv_glo, ↓wv_bin, ↓wv_neg, ↓wv_not, ↓wv_and, ↓wv_or, ↓wv_and1, ↓wv_andc, ↓wv_or1, ↓wv_orc, ↓wv_cmp, ↓wv_chn, ↓wv_ite, ↓wv_idx, ↓wv_slc, ↓wo_none, ↓wo_some, ↓wv_tup, ↓wv_lst, ↓wv_dnew, ↓wv_bi, ↓wv_rgl, ↓wv_mt, ↓wv_isi, ↓wv_isn, ↓wv_ntn, ↓ws_nil, ↓ws_cons, ↓wv_call, ↓wv_callk, ↓wv_lc, ↓wv_gx, ↓wp_stp, ↓wtt_nil, ↓wtt_cons, ↓wi_seq, ↓wi_rng, ↓wi_rng2, ↓Wr_int, ↓Wr2_int, ↓wx_nil, ↓seq_nx, ↓seq_rt, ↓seq_bk, ↓seq_ct, ↓wx_cons, ↓wx_asg, ↓wx_asgLc, ↓wx_par, ↓wx_sset, ↓wx_aug, ↓wx_exp, ↓wx_ret, ↓wx_retn, ↓wx_ifs, ↓wx_trn, ↓wx_fr, ↓wx_brk, ↓wx_cnt, ↓wx_pas, ↓Wp_some, ↓Wp_none, ↓Wo_some, ↓Wo_none, ↓Wx_some, ↓Wx_none, ↓Wv_some, ↓Wt_true, ↓Wt_false, ↓Wt_none, ↓Wp_bd, ↓Wp_map, ↓Wp_bind, ↓Wo_map, ↓Wo_bind, ↓Wp_if, ↓Wo_if, l_addi, l_sub, l_muli, l_mod, l_fdiv, l_addt, l_addl, l_pow18, l_iadd, l_eqi, l_nei, l_lti, l_lei, l_gti, l_gei, l_eqb, l_ixt, l_ixl, l_ix0, l_set0, l_tbl, l_tint, l_ttup, l_tlst, l_tnon, l_inti, l_intb, l_abs, l_lenl, l_lent, l_min2, l_max2, l_listl, l_listt, l_tupl, l_tupt, l_sorted, l_rgl, l_rgt, l_src_t, l_src_l, l_src_r, l_isit, l_isii, l_isiib, l_isiis, l_isiit, l_isbb, l_isbt, l_newLf, l_newLt, l_newT, l_slct, l_slcl, l_slcr, l_nm, l_tp2, List.getElem?_cons_zero, List.getElem?_cons_succ, List.set_cons_zero, List.set_cons_succ, List.length_cons, List.length_nil, List.map_cons, List.map_nil, List.cons_append, List.nil_append, List.replicate_succ, List.replicate_zero, List.append_nil, wipeD, setAll, true_and, and_true, if_true, if_false, Bool.false_eq_true, ite_true, ite_false, Option.toList_some, Option.toList_none, reduceIte, Nat.reduceAdd, Nat.reduceSub, Nat.reduceLeDiff, Nat.reduceLT, Int.reduceAdd, Int.reduceSub, Bool.not_true, Bool.not_false, ne_eq, not_true_eq_false, not_false_eq_true, gt_iff_lt, ge_iff_le, e3, e4]
    exact told_wp hn hr hp q
  · simp only [↓wv_var, ↓wv_con, ↓wv_glo, ↓wv_bin, ↓wv_neg, ↓wv_not, ↓wv_and, ↓wv_or, ↓wv_and1, ↓wv_andc, ↓wv_or1, ↓wv_orc, ↓wv_cmp, ↓wv_chn, ↓wv_ite, ↓wv_idx, ↓wv_slc, ↓wo_none, ↓wo_some, ↓wv_tup, ↓wv_lst, ↓wv_dnew, ↓wv_bi, ↓wv_rgl, ↓wv_mt, ↓wv_isi, ↓wv_isn, ↓wv_ntn, ↓ws_nil, ↓ws_cons, ↓wv_call, ↓wv_callk, ↓wv_lc, ↓wv_gx, ↓wp_stp, ↓wtt_nil, ↓wtt_cons, ↓wi_seq, ↓wi_rng, ↓wi_rng2, ↓Wr_int, ↓Wr2_int, ↓wx_nil, ↓seq_nx, ↓seq_rt, ↓seq_bk, ↓seq_ct, ↓wx_cons, ↓wx_asg, ↓wx_asgLc, ↓wx_par, ↓wx_sset, ↓wx_aug, ↓wx_exp, ↓wx_ret, ↓wx_retn, ↓wx_ifs, ↓wx_trn, ↓wx_fr, ↓wx_brk, ↓wx_cnt, ↓wx_pas, ↓Wp_some, ↓Wp_none, ↓Wo_some, ↓Wo_none, ↓Wx_some, ↓Wx_none, ↓Wv_some, ↓Wt_true, ↓Wt_false, ↓Wt_none, ↓Wp_bd, ↓Wp_map, ↓Wp_bind, ↓Wo_map, ↓Wo_bind, ↓Wp_if, ↓Wo_if, l_addi, l_sub, l_muli, l_mod, l_fdiv, l_addt, l_addl, l_pow18, l_iadd, l_eqi, l_nei, l_lti, l_lei, l_gti, l_gei, l_eqb, l_ixt, l_ixl, l_ix0, l_set0, l_tbl, l_tint, l_ttup, l_tlst, l_tnon, l_inti, l_intb, l_abs, l_lenl, l_lent, l_min2, l_max2, l_listl, l_listt, l_tupl, l_tupt, l_sorted, l_rgl, l_rgt, l_src_t, l_src_l, l_src_r, l_isit, l_isii, l_isiib, l_isiis, l_isiit, l_isbb, l_isbt, l_newLf, l_newLt, l_newT, l_slct, l_slcl, l_slcr, l_nm, l_tp2, List.getElem?_cons_zero, List.getElem?_cons_succ, List.set_cons_zero, List.set_cons_succ, List.length_cons, List.length_nil, List.map_cons, List.map_nil, List.cons_append, List.nil_append, List.replicate_succ, List.replicate_zero, List.append_nil, wipeD, setAll, true_and, and_true, if_true, if_false, Bool.false_eq_true, ite_true, ite_false, Option.toList_some, Option.toList_none, reduceIte, Nat.reduceAdd, Nat.reduceSub, Nat.reduceLeDiff, Nat.reduceLT, Int.reduceAdd, Int.reduceSub, Bool.not_true, Bool.not_false, ne_eq, not_true_eq_false, not_false_eq_true, gt_iff_lt, ge_iff_le, e3, e4]
    have hpd : permD [rsD rs, nD n'] [1, 0] = some [nD n', rsD rs] := rfl
    simp only [↓wv_var, ↓wv_con, ↓wv_glo, ↓wv_bin, ↓wv_neg, ↓wv_not, ↓wv_and, ↓wv_or, ↓wv_and1, ↓wv_andc, ↓wv_or1, ↓wv_orc, ↓wv_cmp, ↓wv_chn, ↓wv_ite, ↓wv_idx, ↓wv_slc, ↓wo_none, ↓wo_some, ↓wv_tup, ↓wv_lst, ↓wv_dnew, ↓wv_bi, ↓wv_rgl, ↓wv_mt, ↓wv_isi, ↓wv_isn, ↓wv_ntn, ↓ws_nil, ↓ws_cons, ↓wv_call, ↓wv_callk, ↓wv_lc, ↓wv_gx, ↓wp_stp, ↓wtt_nil, ↓wtt_cons, ↓wi_seq, ↓wi_rng, ↓wi_rng2, ↓Wr_int, ↓Wr2_int, ↓wx_nil, ↓seq_nx, ↓seq_rt, ↓seq_bk, ↓seq_ct, ↓wx_cons, ↓wx_asg, ↓wx_asgLc, ↓wx_par, ↓wx_sset, ↓wx_aug, ↓wx_exp, ↓wx_ret, ↓wx_retn, ↓wx_ifs, ↓wx_trn, ↓wx_fr, ↓wx_brk, ↓wx_cnt, ↓wx_pas, ↓Wp_some, ↓Wp_none, ↓Wo_some, ↓Wo_none, ↓Wx_some, ↓Wx_none, ↓Wv_some, ↓Wt_true, ↓Wt_false, ↓Wt_none, ↓Wp_bd, ↓Wp_map, ↓Wp_bind, ↓Wo_map, ↓Wo_bind, ↓Wp_if, ↓Wo_if, l_addi, l_sub, l_muli, l_mod, l_fdiv, l_addt, l_addl, l_pow18, l_iadd, l_eqi, l_nei, l_lti, l_lei, l_gti, l_gei, l_eqb, l_ixt, l_ixl, l_ix0, l_set0, l_tbl, l_tint, l_ttup, l_tlst, l_tnon, l_inti, l_intb, l_abs, l_lenl, l_lent, l_min2, l_max2, l_listl, l_listt, l_tupl, l_tupt, l_sorted, l_rgl, l_rgt, l_src_t, l_src_l, l_src_r, l_isit, l_isii, l_isiib, l_isiis, l_isiit, l_isbb, l_isbt, l_newLf, l_newLt, l_newT, l_slct, l_slcl, l_slcr, l_nm, l_tp2, List.getElem?_cons_zero, List.getElem?_cons_succ, List.set_cons_zero, List.set_cons_succ, List.length_cons, List.length_nil, List.map_cons, List.map_nil, List.cons_append, List.nil_append, List.replicate_succ, List.replicate_zero, List.append_nil, wipeD, setAll, true_and, and_true, if_true, if_false, Bool.false_eq_true, ite_true, ite_false, Option.toList_some, Option.toList_none, reduceIte, Nat.reduceAdd, Nat.reduceSub, Nat.reduceLeDiff, Nat.reduceLT, Int.reduceAdd, Int.reduceSub, Bool.not_true, Bool.not_false, ne_eq, not_true_eq_false, not_false_eq_true, gt_iff_lt, ge_iff_le, hpd]
    exact told_wp hn hr hp q
theorem nm_ix {ns : List Nat} {n x : Nat} (h : ns.Perm (List.range n)) (hx : x < n) (s : S) : idxD (.lst (ns.map nD)) (.int (x : Int)) s = some (nD (nm ns x)) := by
  have hl : ns.length = n := by rw [h.length_eq, List.length_range]
  show (ixD (ns.map nD).length (x : Int)).bind (fun j => (ns.map nD)[j]?) = _
  rw [ixD_ok (by omega) (by rw [List.length_map]; omega)]
  show (ns.map nD)[(x : Int).toNat]? = _
  rw [Int.toNat_natCast, List.getElem?_map, List.getElem?_eq_getElem (by omega)]
  unfold nm
  rw [List.getD_eq_getElem?_getD, List.getElem?_eq_getElem (by omega)]
  rfl
end
end Kp

/-! k62: the law. Own work. -/
namespace Kp
open PySem
def many6 : List D := [.int 0, .int 1, .int 2, .int 4, .int 8, .int 8]
theorem many6_n {y : D} (h : y ∈ many6) : ∃ m : Nat, m ≤ 8 ∧ y = nD m := by
  unfold many6 at h
  simp only [List.mem_cons, List.not_mem_nil, or_false] at h
  rcases h with rfl | rfl | rfl | rfl | rfl | rfl
  · exact ⟨0, by decide, rfl⟩
  · exact ⟨1, by decide, rfl⟩
  · exact ⟨2, by decide, rfl⟩
  · exact ⟨4, by decide, rfl⟩
  · exact ⟨8, by decide, rfl⟩
  · exact ⟨8, by decide, rfl⟩
theorem ext_fn {α : Type} {e : α → D} (he : ∀ a b, e a = e b → a = b) (g : α → D) : ∃ f : D → D, ∀ a, f (e a) = g a := by
  classical
  refine ⟨fun d => if h : ∃ a, d = e a then g h.choose else d, fun a => ?_⟩
  have h : ∃ b, e a = e b := ⟨a, rfl⟩
  show (if h : ∃ b, e a = e b then g h.choose else e a) = g a
  rw [dif_pos h, ← he _ _ h.choose_spec]
theorem tN_inj (a b : List Nat) (h : tN a = tN b) : a = b := by
  have h : D.tup (a.map nD) = .tup (b.map nD) := h
  injection h with h
  have : deqs (a.map nD) (b.map nD) = deqs (b.map nD) (b.map nD) := by rw [h]
  rw [deqs_n, deqs_n, decide_eq_true rfl] at this
  exact of_decide_eq_true this
theorem src_rs {rs : List Rule} {s : S} : srcD s (rsD rs) = some (true, rs.map rD, []) := (Eq.refl _).trans rfl
theorem src_ks {ls : List (List Nat)} {s : S} : srcD s (ksD ls) = some (true, ls.map tN, []) := (Eq.refl _).trans rfl
theorem src_tN {l : List Nat} {s : S} : srcD s (tN l) = some (true, l.map nD, []) := (Eq.refl _).trans rfl
theorem ext_fo {α : Type} {e : α → D} (he : ∀ a b, e a = e b → a = b) (g : α → Option D) : ∃ f : D → Option D, ∀ a, f (e a) = g a := by
  classical
  refine ⟨fun d => if h : ∃ a, d = e a then g h.choose else none, fun a => ?_⟩
  have h : ∃ b, e a = e b := ⟨a, rfl⟩
  show (if h : ∃ b, e a = e b then g h.choose else none) = g a
  rw [dif_pos h, ← he _ _ h.choose_spec]
theorem fm_if {α : Type} {e : α → D} {f : D → Option D} {c : α → Bool} (h : ∀ a, f (e a) = if c a = true then some (e a) else none) : ∀ l : List α, (l.map e).filterMap f = (l.filter c).map e
  | [] => rfl
  | a :: l => by
    rw [List.map_cons]
    have h1 := h a
    by_cases k : c a = true
    · rw [if_pos k] at h1
      rw [List.filterMap_cons_some h1, List.filter_cons_of_pos k, fm_if h l, List.map_cons]
    · rw [if_neg k] at h1
      rw [List.filterMap_cons_none h1, List.filter_cons_of_neg k, fm_if h l]
theorem list_ks {ls : List (List Nat)} {mu : Bool} {s : S} : biD .list mu [ksD ls] s = newL mu (ls.map tN) s := (Eq.refl _).trans rfl
theorem len_rs {rs : List Rule} {mu : Bool} {s : S} : biD .len mu [rsD rs] s = some (.int rs.length, s) := by
  show some (D.int (rs.map rD).length, s) = _
  rw [List.length_map]
theorem slc_rs {rs : List Rule} {mu : Bool} {lo hi : Option Int} {s : S} : slcD mu (rsD rs) lo hi s = some (.tup (cutD (rs.map rD) lo hi), s) := (Eq.refl _).trans rfl
theorem ne_rs {rs : List Rule} {s : S} : cmpD .ne (rsD rs) (.tup []) s = some (!rs.isEmpty) := by
  have e1 : pur (rsD rs) = true := purs_r rs
  have e2 : decide (min (dep (rsD rs)) (dep (.tup [])) ≤ 64) = true := decide_eq_true (Nat.le_trans (Nat.min_le_right _ _) (by decide))
  show (if pur (rsD rs) && pur (.tup []) && decide (min (dep (rsD rs)) (dep (.tup [])) ≤ 64) then some (deq (rsD rs) (.tup [])) else none).map (!·) = _
  rw [e1, e2]
  show some (!deqs (rs.map rD) []) = _
  cases rs <;> rfl
theorem cut_suf {xs : List D} {i : Int} (h : 0 ≤ i) (h2 : i ≤ xs.length) : cutD xs (some i) none = xs.drop i.toNat := by
  unfold cutD sIxD
  show ((xs.drop (if i < 0 then (i + xs.length).toNat else min i.toNat xs.length)).take (xs.length - (if i < 0 then (i + xs.length).toNat else min i.toNat xs.length))) = _
  rw [if_neg (by omega), Nat.min_eq_left (by omega), List.take_of_length_le (by rw [List.length_drop]; omega)]
theorem ix_rs {rs : List Rule} {k : Nat} (h : k < rs.length) (s : S) : idxD (rsD rs) (.int (k : Int)) s = some (rD rs[k]) := by
  show (ixD (rs.map rD).length (k : Int)).bind (fun j => (rs.map rD)[j]?) = _
  rw [ixD_ok (by omega) (by rw [List.length_map]; omega)]
  show (rs.map rD)[(k : Int).toNat]? = _
  rw [Int.toNat_natCast, List.getElem?_map, List.getElem?_eq_getElem h]
  rfl
theorem law_wp {ns : List Int} (hl : ns.length ≤ 63) {r : D} (hr : r = .rol (ns.map D.int) ∨ r = .lst (ns.map D.int)) : Wp (R G Ps 200 12 [r] []) fun d _ => d = .bl true := by
  refine R_wp (fn := w_law) rfl rfl ?_
  simp only [w_law, ↓wv_var, ↓wv_con, ↓wv_glo, ↓wv_bin, ↓wv_neg, ↓wv_not, ↓wv_and, ↓wv_or, ↓wv_and1, ↓wv_andc, ↓wv_or1, ↓wv_orc, ↓wv_cmp, ↓wv_chn, ↓wv_ite, ↓wv_idx, ↓wv_slc, ↓wo_none, ↓wo_some, ↓wv_tup, ↓wv_lst, ↓wv_dnew, ↓wv_bi, ↓wv_rgl, ↓wv_mt, ↓wv_isi, ↓wv_isn, ↓wv_ntn, ↓ws_nil, ↓ws_cons, ↓wv_call, ↓wv_callk, ↓wv_lc, ↓wv_gx, ↓wp_stp, ↓wtt_nil, ↓wtt_cons, ↓wi_seq, ↓wi_rng, ↓wi_rng2, ↓Wr_int, ↓Wr2_int, ↓wx_nil, ↓seq_nx, ↓seq_rt, ↓seq_bk, ↓seq_ct, ↓wx_cons, ↓wx_asg, ↓wx_asgLc, ↓wx_par, ↓wx_sset, ↓wx_aug, ↓wx_exp, ↓wx_ret, ↓wx_retn, ↓wx_ifs, ↓wx_trn, ↓wx_fr, ↓wx_brk, ↓wx_cnt, ↓wx_pas, ↓Wp_some, ↓Wp_none, ↓Wo_some, ↓Wo_none, ↓Wx_some, ↓Wx_none, ↓Wv_some, ↓Wt_true, ↓Wt_false, ↓Wt_none, ↓Wp_bd, ↓Wp_map, ↓Wp_bind, ↓Wo_map, ↓Wo_bind, ↓Wp_if, ↓Wo_if, l_addi, l_sub, l_muli, l_mod, l_fdiv, l_addt, l_addl, l_pow18, l_iadd, l_eqi, l_nei, l_lti, l_lei, l_gti, l_gei, l_eqb, l_ixt, l_ixl, l_ix0, l_set0, l_tbl, l_tint, l_ttup, l_tlst, l_tnon, l_inti, l_intb, l_abs, l_lenl, l_lent, l_min2, l_max2, l_listl, l_listt, l_tupl, l_tupt, l_sorted, l_rgl, l_rgt, l_src_t, l_src_l, l_src_r, l_isit, l_isii, l_isiib, l_isiis, l_isiit, l_isbb, l_isbt, l_newLf, l_newLt, l_newT, l_slct, l_slcl, l_slcr, l_nm, l_tp2, List.getElem?_cons_zero, List.getElem?_cons_succ, List.set_cons_zero, List.set_cons_succ, List.length_cons, List.length_nil, List.map_cons, List.map_nil, List.cons_append, List.nil_append, List.replicate_succ, List.replicate_zero, List.append_nil, wipeD, setAll, true_and, and_true, if_true, if_false, Bool.false_eq_true, ite_true, ite_false, Option.toList_some, Option.toList_none, reduceIte, Nat.reduceAdd, Nat.reduceSub, Nat.reduceLeDiff, Nat.reduceLT, Int.reduceAdd, Int.reduceSub, Bool.not_true, Bool.not_false, ne_eq, not_true_eq_false, not_false_eq_true, gt_iff_lt, ge_iff_le]
  refine flow_wp rfl hl hr fun fl hf => ?_
  simp only [↓wv_var, ↓wv_con, ↓wv_glo, ↓wv_bin, ↓wv_neg, ↓wv_not, ↓wv_and, ↓wv_or, ↓wv_and1, ↓wv_andc, ↓wv_or1, ↓wv_orc, ↓wv_cmp, ↓wv_chn, ↓wv_ite, ↓wv_idx, ↓wv_slc, ↓wo_none, ↓wo_some, ↓wv_tup, ↓wv_lst, ↓wv_dnew, ↓wv_bi, ↓wv_rgl, ↓wv_mt, ↓wv_isi, ↓wv_isn, ↓wv_ntn, ↓ws_nil, ↓ws_cons, ↓wv_call, ↓wv_callk, ↓wv_lc, ↓wv_gx, ↓wp_stp, ↓wtt_nil, ↓wtt_cons, ↓wi_seq, ↓wi_rng, ↓wi_rng2, ↓Wr_int, ↓Wr2_int, ↓wx_nil, ↓seq_nx, ↓seq_rt, ↓seq_bk, ↓seq_ct, ↓wx_cons, ↓wx_asg, ↓wx_asgLc, ↓wx_par, ↓wx_sset, ↓wx_aug, ↓wx_exp, ↓wx_ret, ↓wx_retn, ↓wx_ifs, ↓wx_trn, ↓wx_fr, ↓wx_brk, ↓wx_cnt, ↓wx_pas, ↓Wp_some, ↓Wp_none, ↓Wo_some, ↓Wo_none, ↓Wx_some, ↓Wx_none, ↓Wv_some, ↓Wt_true, ↓Wt_false, ↓Wt_none, ↓Wp_bd, ↓Wp_map, ↓Wp_bind, ↓Wo_map, ↓Wo_bind, ↓Wp_if, ↓Wo_if, l_addi, l_sub, l_muli, l_mod, l_fdiv, l_addt, l_addl, l_pow18, l_iadd, l_eqi, l_nei, l_lti, l_lei, l_gti, l_gei, l_eqb, l_ixt, l_ixl, l_ix0, l_set0, l_tbl, l_tint, l_ttup, l_tlst, l_tnon, l_inti, l_intb, l_abs, l_lenl, l_lent, l_min2, l_max2, l_listl, l_listt, l_tupl, l_tupt, l_sorted, l_rgl, l_rgt, l_src_t, l_src_l, l_src_r, l_isit, l_isii, l_isiib, l_isiis, l_isiit, l_isbb, l_isbt, l_newLf, l_newLt, l_newT, l_slct, l_slcl, l_slcr, l_nm, l_tp2, List.getElem?_cons_zero, List.getElem?_cons_succ, List.set_cons_zero, List.set_cons_succ, List.length_cons, List.length_nil, List.map_cons, List.map_nil, List.cons_append, List.nil_append, List.replicate_succ, List.replicate_zero, List.append_nil, wipeD, setAll, true_and, and_true, if_true, if_false, Bool.false_eq_true, ite_true, ite_false, Option.toList_some, Option.toList_none, reduceIte, Nat.reduceAdd, Nat.reduceSub, Nat.reduceLeDiff, Nat.reduceLT, Int.reduceAdd, Int.reduceSub, Bool.not_true, Bool.not_false, ne_eq, not_true_eq_false, not_false_eq_true, gt_iff_lt, ge_iff_le]
  refine ⟨rng_ok (by decide) (by decide), ?_⟩
  have hd : IsDraw Ps 4 := .inl rfl
  have hP5 : Ps[5]? = some (gPick 4) := rfl
  have hP6 : Ps[6]? = some (gShuf 4) := rfl
  have hP8 : Ps[8]? = some (gSame 8) := rfl
  refine for_wp (fun ds env s' => ∃ fl' z2 z3 z4 z5 z6 z7 z8 z9 z10 z11 z12 z13 z14 z15 z16 z17, Flw fl' ∧ s' = [.lst fl'] ∧ env = [some r, some (.ref 0), z2, z3, z4, z5, z6, z7, z8, z9, z10, z11, z12, z13, z14, z15, z16, z17]) _ _ _ ⟨fl, none, none, none, none, none, none, none, none, none, none, none, none, none, none, none, none, hf, rfl, rfl⟩ (fun d ds env s' h => ?_) fun env s' h => ?_
  · obtain ⟨fl, z2, z3, z4, z5, z6, z7, z8, z9, z10, z11, z12, z13, z14, z15, z16, z17, hf, rfl, rfl⟩ := h
    simp only [↓wv_var, ↓wv_con, ↓wv_glo, ↓wv_bin, ↓wv_neg, ↓wv_not, ↓wv_and, ↓wv_or, ↓wv_and1, ↓wv_andc, ↓wv_or1, ↓wv_orc, ↓wv_cmp, ↓wv_chn, ↓wv_ite, ↓wv_idx, ↓wv_slc, ↓wo_none, ↓wo_some, ↓wv_tup, ↓wv_lst, ↓wv_dnew, ↓wv_bi, ↓wv_rgl, ↓wv_mt, ↓wv_isi, ↓wv_isn, ↓wv_ntn, ↓ws_nil, ↓ws_cons, ↓wv_call, ↓wv_callk, ↓wv_lc, ↓wv_gx, ↓wp_stp, ↓wtt_nil, ↓wtt_cons, ↓wi_seq, ↓wi_rng, ↓wi_rng2, ↓Wr_int, ↓Wr2_int, ↓wx_nil, ↓seq_nx, ↓seq_rt, ↓seq_bk, ↓seq_ct, ↓wx_cons, ↓wx_asg, ↓wx_asgLc, ↓wx_par, ↓wx_sset, ↓wx_aug, ↓wx_exp, ↓wx_ret, ↓wx_retn, ↓wx_ifs, ↓wx_trn, ↓wx_fr, ↓wx_brk, ↓wx_cnt, ↓wx_pas, ↓Wp_some, ↓Wp_none, ↓Wo_some, ↓Wo_none, ↓Wx_some, ↓Wx_none, ↓Wv_some, ↓Wt_true, ↓Wt_false, ↓Wt_none, ↓Wp_bd, ↓Wp_map, ↓Wp_bind, ↓Wo_map, ↓Wo_bind, ↓Wp_if, ↓Wo_if, l_addi, l_sub, l_muli, l_mod, l_fdiv, l_addt, l_addl, l_pow18, l_iadd, l_eqi, l_nei, l_lti, l_lei, l_gti, l_gei, l_eqb, l_ixt, l_ixl, l_ix0, l_set0, l_tbl, l_tint, l_ttup, l_tlst, l_tnon, l_inti, l_intb, l_abs, l_lenl, l_lent, l_min2, l_max2, l_listl, l_listt, l_tupl, l_tupt, l_sorted, l_rgl, l_rgt, l_src_t, l_src_l, l_src_r, l_isit, l_isii, l_isiib, l_isiis, l_isiit, l_isbb, l_isbt, l_newLf, l_newLt, l_newT, l_slct, l_slcl, l_slcr, l_nm, l_tp2, List.getElem?_cons_zero, List.getElem?_cons_succ, List.set_cons_zero, List.set_cons_succ, List.length_cons, List.length_nil, List.map_cons, List.map_nil, List.cons_append, List.nil_append, List.replicate_succ, List.replicate_zero, List.append_nil, wipeD, setAll, true_and, and_true, if_true, if_false, Bool.false_eq_true, ite_true, ite_false, Option.toList_some, Option.toList_none, reduceIte, Nat.reduceAdd, Nat.reduceSub, Nat.reduceLeDiff, Nat.reduceLT, Int.reduceAdd, Int.reduceSub, Bool.not_true, Bool.not_false, ne_eq, not_true_eq_false, not_false_eq_true, gt_iff_lt, ge_iff_le]
    refine dr_wp hd hf (by decide) (by decide) fun a fl a0 a1 hf => ?_
    obtain ⟨n', hn0, hn4, e1⟩ : ∃ n' : Nat, 0 < n' ∧ n' ≤ 4 ∧ 1 + a = (n' : Int) := ⟨(1 + a).toNat, by omega, by omega, by omega⟩
    have l6 : (6 : Nat) ≤ lim := by decide
    have l1 : (1 : Nat) ≤ lim := by decide
    have l0 : (0 : Nat) ≤ lim := by decide
    have l2 : (2 : Nat) ≤ lim := by decide
    simp only [↓wv_var, ↓wv_con, ↓wv_glo, ↓wv_bin, ↓wv_neg, ↓wv_not, ↓wv_and, ↓wv_or, ↓wv_and1, ↓wv_andc, ↓wv_or1, ↓wv_orc, ↓wv_cmp, ↓wv_chn, ↓wv_ite, ↓wv_idx, ↓wv_slc, ↓wo_none, ↓wo_some, ↓wv_tup, ↓wv_lst, ↓wv_dnew, ↓wv_bi, ↓wv_rgl, ↓wv_mt, ↓wv_isi, ↓wv_isn, ↓wv_ntn, ↓ws_nil, ↓ws_cons, ↓wv_call, ↓wv_callk, ↓wv_lc, ↓wv_gx, ↓wp_stp, ↓wtt_nil, ↓wtt_cons, ↓wi_seq, ↓wi_rng, ↓wi_rng2, ↓Wr_int, ↓Wr2_int, ↓wx_nil, ↓seq_nx, ↓seq_rt, ↓seq_bk, ↓seq_ct, ↓wx_cons, ↓wx_asg, ↓wx_asgLc, ↓wx_par, ↓wx_sset, ↓wx_aug, ↓wx_exp, ↓wx_ret, ↓wx_retn, ↓wx_ifs, ↓wx_trn, ↓wx_fr, ↓wx_brk, ↓wx_cnt, ↓wx_pas, ↓Wp_some, ↓Wp_none, ↓Wo_some, ↓Wo_none, ↓Wx_some, ↓Wx_none, ↓Wv_some, ↓Wt_true, ↓Wt_false, ↓Wt_none, ↓Wp_bd, ↓Wp_map, ↓Wp_bind, ↓Wo_map, ↓Wo_bind, ↓Wp_if, ↓Wo_if, l_addi, l_sub, l_muli, l_mod, l_fdiv, l_addt, l_addl, l_pow18, l_iadd, l_eqi, l_nei, l_lti, l_lei, l_gti, l_gei, l_eqb, l_ixt, l_ixl, l_ix0, l_set0, l_tbl, l_tint, l_ttup, l_tlst, l_tnon, l_inti, l_intb, l_abs, l_lenl, l_lent, l_min2, l_max2, l_listl, l_listt, l_tupl, l_tupt, l_sorted, l_rgl, l_rgt, l_src_t, l_src_l, l_src_r, l_isit, l_isii, l_isiib, l_isiis, l_isiit, l_isbb, l_isbt, l_newLf, l_newLt, l_newT, l_slct, l_slcl, l_slcr, l_nm, l_tp2, List.getElem?_cons_zero, List.getElem?_cons_succ, List.set_cons_zero, List.set_cons_succ, List.length_cons, List.length_nil, List.map_cons, List.map_nil, List.cons_append, List.nil_append, List.replicate_succ, List.replicate_zero, List.append_nil, wipeD, setAll, true_and, and_true, if_true, if_false, Bool.false_eq_true, ite_true, ite_false, Option.toList_some, Option.toList_none, reduceIte, Nat.reduceAdd, Nat.reduceSub, Nat.reduceLeDiff, Nat.reduceLT, Int.reduceAdd, Int.reduceSub, Bool.not_true, Bool.not_false, ne_eq, not_true_eq_false, not_false_eq_true, gt_iff_lt, ge_iff_le, e1, l6]
    refine pick_wp (ds := many6) hP5 hd (.inl rfl) hf (by decide) (by decide) rfl fun y fl hy hf => ?_
    obtain ⟨m, hm, rfl⟩ := many6_n hy
    simp only [↓wv_var, ↓wv_con, ↓wv_glo, ↓wv_bin, ↓wv_neg, ↓wv_not, ↓wv_and, ↓wv_or, ↓wv_and1, ↓wv_andc, ↓wv_or1, ↓wv_orc, ↓wv_cmp, ↓wv_chn, ↓wv_ite, ↓wv_idx, ↓wv_slc, ↓wo_none, ↓wo_some, ↓wv_tup, ↓wv_lst, ↓wv_dnew, ↓wv_bi, ↓wv_rgl, ↓wv_mt, ↓wv_isi, ↓wv_isn, ↓wv_ntn, ↓ws_nil, ↓ws_cons, ↓wv_call, ↓wv_callk, ↓wv_lc, ↓wv_gx, ↓wp_stp, ↓wtt_nil, ↓wtt_cons, ↓wi_seq, ↓wi_rng, ↓wi_rng2, ↓Wr_int, ↓Wr2_int, ↓wx_nil, ↓seq_nx, ↓seq_rt, ↓seq_bk, ↓seq_ct, ↓wx_cons, ↓wx_asg, ↓wx_asgLc, ↓wx_par, ↓wx_sset, ↓wx_aug, ↓wx_exp, ↓wx_ret, ↓wx_retn, ↓wx_ifs, ↓wx_trn, ↓wx_fr, ↓wx_brk, ↓wx_cnt, ↓wx_pas, ↓Wp_some, ↓Wp_none, ↓Wo_some, ↓Wo_none, ↓Wx_some, ↓Wx_none, ↓Wv_some, ↓Wt_true, ↓Wt_false, ↓Wt_none, ↓Wp_bd, ↓Wp_map, ↓Wp_bind, ↓Wo_map, ↓Wo_bind, ↓Wp_if, ↓Wo_if, l_addi, l_sub, l_muli, l_mod, l_fdiv, l_addt, l_addl, l_pow18, l_iadd, l_eqi, l_nei, l_lti, l_lei, l_gti, l_gei, l_eqb, l_ixt, l_ixl, l_ix0, l_set0, l_tbl, l_tint, l_ttup, l_tlst, l_tnon, l_inti, l_intb, l_abs, l_lenl, l_lent, l_min2, l_max2, l_listl, l_listt, l_tupl, l_tupt, l_sorted, l_rgl, l_rgt, l_src_t, l_src_l, l_src_r, l_isit, l_isii, l_isiib, l_isiis, l_isiit, l_isbb, l_isbt, l_newLf, l_newLt, l_newT, l_slct, l_slcl, l_slcr, l_nm, l_tp2, List.getElem?_cons_zero, List.getElem?_cons_succ, List.set_cons_zero, List.set_cons_succ, List.length_cons, List.length_nil, List.map_cons, List.map_nil, List.cons_append, List.nil_append, List.replicate_succ, List.replicate_zero, List.append_nil, wipeD, setAll, true_and, and_true, if_true, if_false, Bool.false_eq_true, ite_true, ite_false, Option.toList_some, Option.toList_none, reduceIte, Nat.reduceAdd, Nat.reduceSub, Nat.reduceLeDiff, Nat.reduceLT, Int.reduceAdd, Int.reduceSub, Bool.not_true, Bool.not_false, ne_eq, not_true_eq_false, not_false_eq_true, gt_iff_lt, ge_iff_le]
    refine rules_wp hn0 hn4 hm hf fun rs fl hrs hw hf => ?_
    have hr1 : rs.length ≤ lim := lim_big (by omega)
    have hr2 : ∀ r ∈ rs, r.1.length ≤ lim := fun r hr => lim_big (by have := (hw r hr).2.1; omega)
    simp only [↓wv_var, ↓wv_con, ↓wv_glo, ↓wv_bin, ↓wv_neg, ↓wv_not, ↓wv_and, ↓wv_or, ↓wv_and1, ↓wv_andc, ↓wv_or1, ↓wv_orc, ↓wv_cmp, ↓wv_chn, ↓wv_ite, ↓wv_idx, ↓wv_slc, ↓wo_none, ↓wo_some, ↓wv_tup, ↓wv_lst, ↓wv_dnew, ↓wv_bi, ↓wv_rgl, ↓wv_mt, ↓wv_isi, ↓wv_isn, ↓wv_ntn, ↓ws_nil, ↓ws_cons, ↓wv_call, ↓wv_callk, ↓wv_lc, ↓wv_gx, ↓wp_stp, ↓wtt_nil, ↓wtt_cons, ↓wi_seq, ↓wi_rng, ↓wi_rng2, ↓Wr_int, ↓Wr2_int, ↓wx_nil, ↓seq_nx, ↓seq_rt, ↓seq_bk, ↓seq_ct, ↓wx_cons, ↓wx_asg, ↓wx_asgLc, ↓wx_par, ↓wx_sset, ↓wx_aug, ↓wx_exp, ↓wx_ret, ↓wx_retn, ↓wx_ifs, ↓wx_trn, ↓wx_fr, ↓wx_brk, ↓wx_cnt, ↓wx_pas, ↓Wp_some, ↓Wp_none, ↓Wo_some, ↓Wo_none, ↓Wx_some, ↓Wx_none, ↓Wv_some, ↓Wt_true, ↓Wt_false, ↓Wt_none, ↓Wp_bd, ↓Wp_map, ↓Wp_bind, ↓Wo_map, ↓Wo_bind, ↓Wp_if, ↓Wo_if, l_addi, l_sub, l_muli, l_mod, l_fdiv, l_addt, l_addl, l_pow18, l_iadd, l_eqi, l_nei, l_lti, l_lei, l_gti, l_gei, l_eqb, l_ixt, l_ixl, l_ix0, l_set0, l_tbl, l_tint, l_ttup, l_tlst, l_tnon, l_inti, l_intb, l_abs, l_lenl, l_lent, l_min2, l_max2, l_listl, l_listt, l_tupl, l_tupt, l_sorted, l_rgl, l_rgt, l_src_t, l_src_l, l_src_r, l_isit, l_isii, l_isiib, l_isiis, l_isiit, l_isbb, l_isbt, l_newLf, l_newLt, l_newT, l_slct, l_slcl, l_slcr, l_nm, l_tp2, List.getElem?_cons_zero, List.getElem?_cons_succ, List.set_cons_zero, List.set_cons_succ, List.length_cons, List.length_nil, List.map_cons, List.map_nil, List.cons_append, List.nil_append, List.replicate_succ, List.replicate_zero, List.append_nil, wipeD, setAll, true_and, and_true, if_true, if_false, Bool.false_eq_true, ite_true, ite_false, Option.toList_some, Option.toList_none, reduceIte, Nat.reduceAdd, Nat.reduceSub, Nat.reduceLeDiff, Nat.reduceLT, Int.reduceAdd, Int.reduceSub, Bool.not_true, Bool.not_false, ne_eq, not_true_eq_false, not_false_eq_true, gt_iff_lt, ge_iff_le]
    refine own_wp hn4 hr1 hr2 ?_
    simp only [↓wv_var, ↓wv_con, ↓wv_glo, ↓wv_bin, ↓wv_neg, ↓wv_not, ↓wv_and, ↓wv_or, ↓wv_and1, ↓wv_andc, ↓wv_or1, ↓wv_orc, ↓wv_cmp, ↓wv_chn, ↓wv_ite, ↓wv_idx, ↓wv_slc, ↓wo_none, ↓wo_some, ↓wv_tup, ↓wv_lst, ↓wv_dnew, ↓wv_bi, ↓wv_rgl, ↓wv_mt, ↓wv_isi, ↓wv_isn, ↓wv_ntn, ↓ws_nil, ↓ws_cons, ↓wv_call, ↓wv_callk, ↓wv_lc, ↓wv_gx, ↓wp_stp, ↓wtt_nil, ↓wtt_cons, ↓wi_seq, ↓wi_rng, ↓wi_rng2, ↓Wr_int, ↓Wr2_int, ↓wx_nil, ↓seq_nx, ↓seq_rt, ↓seq_bk, ↓seq_ct, ↓wx_cons, ↓wx_asg, ↓wx_asgLc, ↓wx_par, ↓wx_sset, ↓wx_aug, ↓wx_exp, ↓wx_ret, ↓wx_retn, ↓wx_ifs, ↓wx_trn, ↓wx_fr, ↓wx_brk, ↓wx_cnt, ↓wx_pas, ↓Wp_some, ↓Wp_none, ↓Wo_some, ↓Wo_none, ↓Wx_some, ↓Wx_none, ↓Wv_some, ↓Wt_true, ↓Wt_false, ↓Wt_none, ↓Wp_bd, ↓Wp_map, ↓Wp_bind, ↓Wo_map, ↓Wo_bind, ↓Wp_if, ↓Wo_if, l_addi, l_sub, l_muli, l_mod, l_fdiv, l_addt, l_addl, l_pow18, l_iadd, l_eqi, l_nei, l_lti, l_lei, l_gti, l_gei, l_eqb, l_ixt, l_ixl, l_ix0, l_set0, l_tbl, l_tint, l_ttup, l_tlst, l_tnon, l_inti, l_intb, l_abs, l_lenl, l_lent, l_min2, l_max2, l_listl, l_listt, l_tupl, l_tupt, l_sorted, l_rgl, l_rgt, l_src_t, l_src_l, l_src_r, l_isit, l_isii, l_isiib, l_isiis, l_isiit, l_isbb, l_isbt, l_newLf, l_newLt, l_newT, l_slct, l_slcl, l_slcr, l_nm, l_tp2, List.getElem?_cons_zero, List.getElem?_cons_succ, List.set_cons_zero, List.set_cons_succ, List.length_cons, List.length_nil, List.map_cons, List.map_nil, List.cons_append, List.nil_append, List.replicate_succ, List.replicate_zero, List.append_nil, wipeD, setAll, true_and, and_true, if_true, if_false, Bool.false_eq_true, ite_true, ite_false, Option.toList_some, Option.toList_none, reduceIte, Nat.reduceAdd, Nat.reduceSub, Nat.reduceLeDiff, Nat.reduceLT, Int.reduceAdd, Int.reduceSub, Bool.not_true, Bool.not_false, ne_eq, not_true_eq_false, not_false_eq_true, gt_iff_lt, ge_iff_le]
    refine dr_wp hd hf (by decide) (by decide) fun b fl b0 b1 hf => ?_
    simp only [↓wv_var, ↓wv_con, ↓wv_glo, ↓wv_bin, ↓wv_neg, ↓wv_not, ↓wv_and, ↓wv_or, ↓wv_and1, ↓wv_andc, ↓wv_or1, ↓wv_orc, ↓wv_cmp, ↓wv_chn, ↓wv_ite, ↓wv_idx, ↓wv_slc, ↓wo_none, ↓wo_some, ↓wv_tup, ↓wv_lst, ↓wv_dnew, ↓wv_bi, ↓wv_rgl, ↓wv_mt, ↓wv_isi, ↓wv_isn, ↓wv_ntn, ↓ws_nil, ↓ws_cons, ↓wv_call, ↓wv_callk, ↓wv_lc, ↓wv_gx, ↓wp_stp, ↓wtt_nil, ↓wtt_cons, ↓wi_seq, ↓wi_rng, ↓wi_rng2, ↓Wr_int, ↓Wr2_int, ↓wx_nil, ↓seq_nx, ↓seq_rt, ↓seq_bk, ↓seq_ct, ↓wx_cons, ↓wx_asg, ↓wx_asgLc, ↓wx_par, ↓wx_sset, ↓wx_aug, ↓wx_exp, ↓wx_ret, ↓wx_retn, ↓wx_ifs, ↓wx_trn, ↓wx_fr, ↓wx_brk, ↓wx_cnt, ↓wx_pas, ↓Wp_some, ↓Wp_none, ↓Wo_some, ↓Wo_none, ↓Wx_some, ↓Wx_none, ↓Wv_some, ↓Wt_true, ↓Wt_false, ↓Wt_none, ↓Wp_bd, ↓Wp_map, ↓Wp_bind, ↓Wo_map, ↓Wo_bind, ↓Wp_if, ↓Wo_if, l_addi, l_sub, l_muli, l_mod, l_fdiv, l_addt, l_addl, l_pow18, l_iadd, l_eqi, l_nei, l_lti, l_lei, l_gti, l_gei, l_eqb, l_ixt, l_ixl, l_ix0, l_set0, l_tbl, l_tint, l_ttup, l_tlst, l_tnon, l_inti, l_intb, l_abs, l_lenl, l_lent, l_min2, l_max2, l_listl, l_listt, l_tupl, l_tupt, l_sorted, l_rgl, l_rgt, l_src_t, l_src_l, l_src_r, l_isit, l_isii, l_isiib, l_isiis, l_isiit, l_isbb, l_isbt, l_newLf, l_newLt, l_newT, l_slct, l_slcl, l_slcr, l_nm, l_tp2, List.getElem?_cons_zero, List.getElem?_cons_succ, List.set_cons_zero, List.set_cons_succ, List.length_cons, List.length_nil, List.map_cons, List.map_nil, List.cons_append, List.nil_append, List.replicate_succ, List.replicate_zero, List.append_nil, wipeD, setAll, true_and, and_true, if_true, if_false, Bool.false_eq_true, ite_true, ite_false, Option.toList_some, Option.toList_none, reduceIte, Nat.reduceAdd, Nat.reduceSub, Nat.reduceLeDiff, Nat.reduceLT, Int.reduceAdd, Int.reduceSub, Bool.not_true, Bool.not_false, ne_eq, not_true_eq_false, not_false_eq_true, gt_iff_lt, ge_iff_le]
    refine told_fork hn4 hr1 hr2 rfl rfl ?_
    have hk16 := fun os => kept_len (rs := os) hn4
    have hkp : ∀ os : List Rule, ∀ l ∈ kept n' os, l.length ≤ 4 := fun os l hl => by
      have := ((mem_kept.mp hl).1).length_le
      rw [List.length_range] at this
      omega
    have plk : ∀ os : List Rule, plD (ksD (kept n' os)) = true := fun os => plD_ks (lim_big (by have := hk16 os; omega)) fun l hl => lim_big (by have := hkp os l hl; omega)
    have dek : ∀ ls : List (List Nat), dep (ksD ls) ≤ 2 := fun ls => by
      show deps (ls.map tN) + 1 ≤ 2
      have : deps (ls.map tN) ≤ 1 := by
        induction ls with
        | nil => exact Nat.zero_le _
        | cons l ls ih =>
          show max (deps (l.map nD) + 1) (deps (ls.map tN)) ≤ 1
          rw [deps_n]
          omega
      omega
    simp only [↓wv_var, ↓wv_con, ↓wv_glo, ↓wv_bin, ↓wv_neg, ↓wv_not, ↓wv_and, ↓wv_or, ↓wv_and1, ↓wv_andc, ↓wv_or1, ↓wv_orc, ↓wv_cmp, ↓wv_chn, ↓wv_ite, ↓wv_idx, ↓wv_slc, ↓wo_none, ↓wo_some, ↓wv_tup, ↓wv_lst, ↓wv_dnew, ↓wv_bi, ↓wv_rgl, ↓wv_mt, ↓wv_isi, ↓wv_isn, ↓wv_ntn, ↓ws_nil, ↓ws_cons, ↓wv_call, ↓wv_callk, ↓wv_lc, ↓wv_gx, ↓wp_stp, ↓wtt_nil, ↓wtt_cons, ↓wi_seq, ↓wi_rng, ↓wi_rng2, ↓Wr_int, ↓Wr2_int, ↓wx_nil, ↓seq_nx, ↓seq_rt, ↓seq_bk, ↓seq_ct, ↓wx_cons, ↓wx_asg, ↓wx_asgLc, ↓wx_par, ↓wx_sset, ↓wx_aug, ↓wx_exp, ↓wx_ret, ↓wx_retn, ↓wx_ifs, ↓wx_trn, ↓wx_fr, ↓wx_brk, ↓wx_cnt, ↓wx_pas, ↓Wp_some, ↓Wp_none, ↓Wo_some, ↓Wo_none, ↓Wx_some, ↓Wx_none, ↓Wv_some, ↓Wt_true, ↓Wt_false, ↓Wt_none, ↓Wp_bd, ↓Wp_map, ↓Wp_bind, ↓Wo_map, ↓Wo_bind, ↓Wp_if, ↓Wo_if, l_addi, l_sub, l_muli, l_mod, l_fdiv, l_addt, l_addl, l_pow18, l_iadd, l_eqi, l_nei, l_lti, l_lei, l_gti, l_gei, l_eqb, l_ixt, l_ixl, l_ix0, l_set0, l_tbl, l_tint, l_ttup, l_tlst, l_tnon, l_inti, l_intb, l_abs, l_lenl, l_lent, l_min2, l_max2, l_listl, l_listt, l_tupl, l_tupt, l_sorted, l_rgl, l_rgt, l_src_t, l_src_l, l_src_r, l_isit, l_isii, l_isiib, l_isiis, l_isiit, l_isbb, l_isbt, l_newLf, l_newLt, l_newT, l_slct, l_slcl, l_slcr, l_nm, l_tp2, List.getElem?_cons_zero, List.getElem?_cons_succ, List.set_cons_zero, List.set_cons_succ, List.length_cons, List.length_nil, List.map_cons, List.map_nil, List.cons_append, List.nil_append, List.replicate_succ, List.replicate_zero, List.append_nil, wipeD, setAll, true_and, and_true, if_true, if_false, Bool.false_eq_true, ite_true, ite_false, Option.toList_some, Option.toList_none, reduceIte, Nat.reduceAdd, Nat.reduceSub, Nat.reduceLeDiff, Nat.reduceLT, Int.reduceAdd, Int.reduceSub, Bool.not_true, Bool.not_false, ne_eq, not_true_eq_false, not_false_eq_true, gt_iff_lt, ge_iff_le]
    refine same_wp hP8 _ _ (plk rs) (Nat.lt_of_le_of_lt (dek _) (by decide)) ?_
    have rg : ((List.range (n' : Int).toNat).map fun i => D.int (i : Nat)) = (List.range n').map nD := by
      rw [Int.toNat_natCast]
      rfl
    have rl : ((List.range n').map nD).length ≤ lim := by
      rw [List.length_map, List.length_range]
      exact lim_big (by omega)
    have b1 : -(lim : Int) ≤ (n' : Int) ∧ (n' : Int) ≤ lim := by
      have : (lim : Int) = 100000 := rfl
      omega
    simp only [↓wv_var, ↓wv_con, ↓wv_glo, ↓wv_bin, ↓wv_neg, ↓wv_not, ↓wv_and, ↓wv_or, ↓wv_and1, ↓wv_andc, ↓wv_or1, ↓wv_orc, ↓wv_cmp, ↓wv_chn, ↓wv_ite, ↓wv_idx, ↓wv_slc, ↓wo_none, ↓wo_some, ↓wv_tup, ↓wv_lst, ↓wv_dnew, ↓wv_bi, ↓wv_rgl, ↓wv_mt, ↓wv_isi, ↓wv_isn, ↓wv_ntn, ↓ws_nil, ↓ws_cons, ↓wv_call, ↓wv_callk, ↓wv_lc, ↓wv_gx, ↓wp_stp, ↓wtt_nil, ↓wtt_cons, ↓wi_seq, ↓wi_rng, ↓wi_rng2, ↓Wr_int, ↓Wr2_int, ↓wx_nil, ↓seq_nx, ↓seq_rt, ↓seq_bk, ↓seq_ct, ↓wx_cons, ↓wx_asg, ↓wx_asgLc, ↓wx_par, ↓wx_sset, ↓wx_aug, ↓wx_exp, ↓wx_ret, ↓wx_retn, ↓wx_ifs, ↓wx_trn, ↓wx_fr, ↓wx_brk, ↓wx_cnt, ↓wx_pas, ↓Wp_some, ↓Wp_none, ↓Wo_some, ↓Wo_none, ↓Wx_some, ↓Wx_none, ↓Wv_some, ↓Wt_true, ↓Wt_false, ↓Wt_none, ↓Wp_bd, ↓Wp_map, ↓Wp_bind, ↓Wo_map, ↓Wo_bind, ↓Wp_if, ↓Wo_if, l_addi, l_sub, l_muli, l_mod, l_fdiv, l_addt, l_addl, l_pow18, l_iadd, l_eqi, l_nei, l_lti, l_lei, l_gti, l_gei, l_eqb, l_ixt, l_ixl, l_ix0, l_set0, l_tbl, l_tint, l_ttup, l_tlst, l_tnon, l_inti, l_intb, l_abs, l_lenl, l_lent, l_min2, l_max2, l_listl, l_listt, l_tupl, l_tupt, l_sorted, l_rgl, l_rgt, l_src_t, l_src_l, l_src_r, l_isit, l_isii, l_isiib, l_isiis, l_isiit, l_isbb, l_isbt, l_newLf, l_newLt, l_newT, l_slct, l_slcl, l_slcr, l_nm, l_tp2, List.getElem?_cons_zero, List.getElem?_cons_succ, List.set_cons_zero, List.set_cons_succ, List.length_cons, List.length_nil, List.map_cons, List.map_nil, List.cons_append, List.nil_append, List.replicate_succ, List.replicate_zero, List.append_nil, wipeD, setAll, true_and, and_true, if_true, if_false, Bool.false_eq_true, ite_true, ite_false, Option.toList_some, Option.toList_none, reduceIte, Nat.reduceAdd, Nat.reduceSub, Nat.reduceLeDiff, Nat.reduceLT, Int.reduceAdd, Int.reduceSub, Bool.not_true, Bool.not_false, ne_eq, not_true_eq_false, not_false_eq_true, gt_iff_lt, ge_iff_le, b1, rg, rl, nin_ks, decide_eq_true (full_kept hw)]
    refine shuf_wp hP6 hd hf rl (purs_n _) fun es fl hes hf => ?_
    obtain ⟨ns, rfl, _⟩ := from_n (P := fun _ => True) (ds := es) fun d hd => by
      obtain ⟨x, _, rfl⟩ := List.mem_map.mp (hes.mem_iff.mp hd)
      exact ⟨x, rfl, trivial⟩
    have hns := map_nD_inj hes
    have hnl : ns.length = n' := by rw [hns.length_eq, List.length_range]
    obtain ⟨f3, hf3⟩ := ext_fn (e := nD) (fun a b h => nD_inj.mp h) fun x => nD (nm ns x)
    obtain ⟨f1, hf1⟩ := ext_fn (e := rD) (fun a b h => rD_inj h) fun r => rD (rho ns r)
    obtain ⟨f2, hf2⟩ := ext_fn (e := tN) tN_inj fun l => tN (img ns l)
    have m3 : ∀ l : List Nat, (l.map nD).map f3 = (l.map (nm ns)).map nD := fun l => by
      rw [List.map_map, List.map_map]
      exact List.map_congr_left fun x _ => hf3 x
    have m1 : (rs.map rD).map f1 = (rs.map (rho ns)).map rD := by
      rw [List.map_map, List.map_map]
      exact List.map_congr_left fun x _ => hf1 x
    have m2 : ((kept n' rs).map tN).map f2 = ((kept n' rs).map (img ns)).map tN := by
      rw [List.map_map, List.map_map]
      exact List.map_congr_left fun x _ => hf2 x
    have sn : ∀ l : List Nat, sortD ((l.map (nm ns)).map nD) = some ((img ns l).map nD) := fun l => sort_n _
    have il : ∀ l : List Nat, (img ns l).length = l.length := fun l => by
      rw [show img ns l = srtN (l.map (nm ns)) from rfl, (srtN_perm _).length_eq, List.length_map]
    simp only [↓wv_var, ↓wv_con, ↓wv_glo, ↓wv_bin, ↓wv_neg, ↓wv_not, ↓wv_and, ↓wv_or, ↓wv_and1, ↓wv_andc, ↓wv_or1, ↓wv_orc, ↓wv_cmp, ↓wv_chn, ↓wv_ite, ↓wv_idx, ↓wv_slc, ↓wo_none, ↓wo_some, ↓wv_tup, ↓wv_lst, ↓wv_dnew, ↓wv_bi, ↓wv_rgl, ↓wv_mt, ↓wv_isi, ↓wv_isn, ↓wv_ntn, ↓ws_nil, ↓ws_cons, ↓wv_call, ↓wv_callk, ↓wv_lc, ↓wv_gx, ↓wp_stp, ↓wtt_nil, ↓wtt_cons, ↓wi_seq, ↓wi_rng, ↓wi_rng2, ↓Wr_int, ↓Wr2_int, ↓wx_nil, ↓seq_nx, ↓seq_rt, ↓seq_bk, ↓seq_ct, ↓wx_cons, ↓wx_asg, ↓wx_asgLc, ↓wx_par, ↓wx_sset, ↓wx_aug, ↓wx_exp, ↓wx_ret, ↓wx_retn, ↓wx_ifs, ↓wx_trn, ↓wx_fr, ↓wx_brk, ↓wx_cnt, ↓wx_pas, ↓Wp_some, ↓Wp_none, ↓Wo_some, ↓Wo_none, ↓Wx_some, ↓Wx_none, ↓Wv_some, ↓Wt_true, ↓Wt_false, ↓Wt_none, ↓Wp_bd, ↓Wp_map, ↓Wp_bind, ↓Wo_map, ↓Wo_bind, ↓Wp_if, ↓Wo_if, l_addi, l_sub, l_muli, l_mod, l_fdiv, l_addt, l_addl, l_pow18, l_iadd, l_eqi, l_nei, l_lti, l_lei, l_gti, l_gei, l_eqb, l_ixt, l_ixl, l_ix0, l_set0, l_tbl, l_tint, l_ttup, l_tlst, l_tnon, l_inti, l_intb, l_abs, l_lenl, l_lent, l_min2, l_max2, l_listl, l_listt, l_tupl, l_tupt, l_sorted, l_rgl, l_rgt, l_src_t, l_src_l, l_src_r, l_isit, l_isii, l_isiib, l_isiis, l_isiit, l_isbb, l_isbt, l_newLf, l_newLt, l_newT, l_slct, l_slcl, l_slcr, l_nm, l_tp2, List.getElem?_cons_zero, List.getElem?_cons_succ, List.set_cons_zero, List.set_cons_succ, List.length_cons, List.length_nil, List.map_cons, List.map_nil, List.cons_append, List.nil_append, List.replicate_succ, List.replicate_zero, List.append_nil, wipeD, setAll, true_and, and_true, if_true, if_false, Bool.false_eq_true, ite_true, ite_false, Option.toList_some, Option.toList_none, reduceIte, Nat.reduceAdd, Nat.reduceSub, Nat.reduceLeDiff, Nat.reduceLT, Int.reduceAdd, Int.reduceSub, Bool.not_true, Bool.not_false, ne_eq, not_true_eq_false, not_false_eq_true, gt_iff_lt, ge_iff_le, src_rs]
    refine comp_all f1 rfl _ (fun d hd => ?_) ?_
    · obtain ⟨q, hq, rfl⟩ := List.mem_map.mp hd
      have e4 : rD q = .tup [tN q.1, nD q.2] := rfl
      have hq1 := hw q hq
      rw [hf1]
      simp only [↓wv_var, ↓wv_con, ↓wv_glo, ↓wv_bin, ↓wv_neg, ↓wv_not, ↓wv_and, ↓wv_or, ↓wv_and1, ↓wv_andc, ↓wv_or1, ↓wv_orc, ↓wv_cmp, ↓wv_chn, ↓wv_ite, ↓wv_idx, ↓wv_slc, ↓wo_none, ↓wo_some, ↓wv_tup, ↓wv_lst, ↓wv_dnew, ↓wv_bi, ↓wv_rgl, ↓wv_mt, ↓wv_isi, ↓wv_isn, ↓wv_ntn, ↓ws_nil, ↓ws_cons, ↓wv_call, ↓wv_callk, ↓wv_lc, ↓wv_gx, ↓wp_stp, ↓wtt_nil, ↓wtt_cons, ↓wi_seq, ↓wi_rng, ↓wi_rng2, ↓Wr_int, ↓Wr2_int, ↓wx_nil, ↓seq_nx, ↓seq_rt, ↓seq_bk, ↓seq_ct, ↓wx_cons, ↓wx_asg, ↓wx_asgLc, ↓wx_par, ↓wx_sset, ↓wx_aug, ↓wx_exp, ↓wx_ret, ↓wx_retn, ↓wx_ifs, ↓wx_trn, ↓wx_fr, ↓wx_brk, ↓wx_cnt, ↓wx_pas, ↓Wp_some, ↓Wp_none, ↓Wo_some, ↓Wo_none, ↓Wx_some, ↓Wx_none, ↓Wv_some, ↓Wt_true, ↓Wt_false, ↓Wt_none, ↓Wp_bd, ↓Wp_map, ↓Wp_bind, ↓Wo_map, ↓Wo_bind, ↓Wp_if, ↓Wo_if, l_addi, l_sub, l_muli, l_mod, l_fdiv, l_addt, l_addl, l_pow18, l_iadd, l_eqi, l_nei, l_lti, l_lei, l_gti, l_gei, l_eqb, l_ixt, l_ixl, l_ix0, l_set0, l_tbl, l_tint, l_ttup, l_tlst, l_tnon, l_inti, l_intb, l_abs, l_lenl, l_lent, l_min2, l_max2, l_listl, l_listt, l_tupl, l_tupt, l_sorted, l_rgl, l_rgt, l_src_t, l_src_l, l_src_r, l_isit, l_isii, l_isiib, l_isiis, l_isiit, l_isbb, l_isbt, l_newLf, l_newLt, l_newT, l_slct, l_slcl, l_slcr, l_nm, l_tp2, List.getElem?_cons_zero, List.getElem?_cons_succ, List.set_cons_zero, List.set_cons_succ, List.length_cons, List.length_nil, List.map_cons, List.map_nil, List.cons_append, List.nil_append, List.replicate_succ, List.replicate_zero, List.append_nil, wipeD, setAll, true_and, and_true, if_true, if_false, Bool.false_eq_true, ite_true, ite_false, Option.toList_some, Option.toList_none, reduceIte, Nat.reduceAdd, Nat.reduceSub, Nat.reduceLeDiff, Nat.reduceLT, Int.reduceAdd, Int.reduceSub, Bool.not_true, Bool.not_false, ne_eq, not_true_eq_false, not_false_eq_true, gt_iff_lt, ge_iff_le, e4, src_tN]
      refine comp_all f3 rfl _ (fun d hd => ?_) ?_
      · obtain ⟨x, hx, rfl⟩ := List.mem_map.mp hd
        have ix : ∀ s, idxD (.lst (ns.map nD)) (nD x) s = some (nD (nm ns x)) := fun s => nm_ix hns (hq1.2.2 x hx) s
        rw [hf3]
        simp only [↓wv_var, ↓wv_con, ↓wv_glo, ↓wv_bin, ↓wv_neg, ↓wv_not, ↓wv_and, ↓wv_or, ↓wv_and1, ↓wv_andc, ↓wv_or1, ↓wv_orc, ↓wv_cmp, ↓wv_chn, ↓wv_ite, ↓wv_idx, ↓wv_slc, ↓wo_none, ↓wo_some, ↓wv_tup, ↓wv_lst, ↓wv_dnew, ↓wv_bi, ↓wv_rgl, ↓wv_mt, ↓wv_isi, ↓wv_isn, ↓wv_ntn, ↓ws_nil, ↓ws_cons, ↓wv_call, ↓wv_callk, ↓wv_lc, ↓wv_gx, ↓wp_stp, ↓wtt_nil, ↓wtt_cons, ↓wi_seq, ↓wi_rng, ↓wi_rng2, ↓Wr_int, ↓Wr2_int, ↓wx_nil, ↓seq_nx, ↓seq_rt, ↓seq_bk, ↓seq_ct, ↓wx_cons, ↓wx_asg, ↓wx_asgLc, ↓wx_par, ↓wx_sset, ↓wx_aug, ↓wx_exp, ↓wx_ret, ↓wx_retn, ↓wx_ifs, ↓wx_trn, ↓wx_fr, ↓wx_brk, ↓wx_cnt, ↓wx_pas, ↓Wp_some, ↓Wp_none, ↓Wo_some, ↓Wo_none, ↓Wx_some, ↓Wx_none, ↓Wv_some, ↓Wt_true, ↓Wt_false, ↓Wt_none, ↓Wp_bd, ↓Wp_map, ↓Wp_bind, ↓Wo_map, ↓Wo_bind, ↓Wp_if, ↓Wo_if, l_addi, l_sub, l_muli, l_mod, l_fdiv, l_addt, l_addl, l_pow18, l_iadd, l_eqi, l_nei, l_lti, l_lei, l_gti, l_gei, l_eqb, l_ixt, l_ixl, l_ix0, l_set0, l_tbl, l_tint, l_ttup, l_tlst, l_tnon, l_inti, l_intb, l_abs, l_lenl, l_lent, l_min2, l_max2, l_listl, l_listt, l_tupl, l_tupt, l_sorted, l_rgl, l_rgt, l_src_t, l_src_l, l_src_r, l_isit, l_isii, l_isiib, l_isiis, l_isiit, l_isbb, l_isbt, l_newLf, l_newLt, l_newT, l_slct, l_slcl, l_slcr, l_nm, l_tp2, List.getElem?_cons_zero, List.getElem?_cons_succ, List.set_cons_zero, List.set_cons_succ, List.length_cons, List.length_nil, List.map_cons, List.map_nil, List.cons_append, List.nil_append, List.replicate_succ, List.replicate_zero, List.append_nil, wipeD, setAll, true_and, and_true, if_true, if_false, Bool.false_eq_true, ite_true, ite_false, Option.toList_some, Option.toList_none, reduceIte, Nat.reduceAdd, Nat.reduceSub, Nat.reduceLeDiff, Nat.reduceLT, Int.reduceAdd, Int.reduceSub, Bool.not_true, Bool.not_false, ne_eq, not_true_eq_false, not_false_eq_true, gt_iff_lt, ge_iff_le, ix]
      · have e5 : ((q.1.map (nm ns)).map nD).length ≤ lim := by
          rw [List.length_map, List.length_map]
          exact hr2 q hq
        have e6 : ((img ns q.1).map nD).length ≤ lim := by
          rw [List.length_map, il]
          exact hr2 q hq
        have ix : ∀ s, idxD (.lst (ns.map nD)) (nD q.2) s = some (nD (nm ns q.2)) := fun s => nm_ix hns hq1.1 s
        rw [m3]
        simp only [↓wv_var, ↓wv_con, ↓wv_glo, ↓wv_bin, ↓wv_neg, ↓wv_not, ↓wv_and, ↓wv_or, ↓wv_and1, ↓wv_andc, ↓wv_or1, ↓wv_orc, ↓wv_cmp, ↓wv_chn, ↓wv_ite, ↓wv_idx, ↓wv_slc, ↓wo_none, ↓wo_some, ↓wv_tup, ↓wv_lst, ↓wv_dnew, ↓wv_bi, ↓wv_rgl, ↓wv_mt, ↓wv_isi, ↓wv_isn, ↓wv_ntn, ↓ws_nil, ↓ws_cons, ↓wv_call, ↓wv_callk, ↓wv_lc, ↓wv_gx, ↓wp_stp, ↓wtt_nil, ↓wtt_cons, ↓wi_seq, ↓wi_rng, ↓wi_rng2, ↓Wr_int, ↓Wr2_int, ↓wx_nil, ↓seq_nx, ↓seq_rt, ↓seq_bk, ↓seq_ct, ↓wx_cons, ↓wx_asg, ↓wx_asgLc, ↓wx_par, ↓wx_sset, ↓wx_aug, ↓wx_exp, ↓wx_ret, ↓wx_retn, ↓wx_ifs, ↓wx_trn, ↓wx_fr, ↓wx_brk, ↓wx_cnt, ↓wx_pas, ↓Wp_some, ↓Wp_none, ↓Wo_some, ↓Wo_none, ↓Wx_some, ↓Wx_none, ↓Wv_some, ↓Wt_true, ↓Wt_false, ↓Wt_none, ↓Wp_bd, ↓Wp_map, ↓Wp_bind, ↓Wo_map, ↓Wo_bind, ↓Wp_if, ↓Wo_if, l_addi, l_sub, l_muli, l_mod, l_fdiv, l_addt, l_addl, l_pow18, l_iadd, l_eqi, l_nei, l_lti, l_lei, l_gti, l_gei, l_eqb, l_ixt, l_ixl, l_ix0, l_set0, l_tbl, l_tint, l_ttup, l_tlst, l_tnon, l_inti, l_intb, l_abs, l_lenl, l_lent, l_min2, l_max2, l_listl, l_listt, l_tupl, l_tupt, l_sorted, l_rgl, l_rgt, l_src_t, l_src_l, l_src_r, l_isit, l_isii, l_isiib, l_isiis, l_isiit, l_isbb, l_isbt, l_newLf, l_newLt, l_newT, l_slct, l_slcl, l_slcr, l_nm, l_tp2, List.getElem?_cons_zero, List.getElem?_cons_succ, List.set_cons_zero, List.set_cons_succ, List.length_cons, List.length_nil, List.map_cons, List.map_nil, List.cons_append, List.nil_append, List.replicate_succ, List.replicate_zero, List.append_nil, wipeD, setAll, true_and, and_true, if_true, if_false, Bool.false_eq_true, ite_true, ite_false, Option.toList_some, Option.toList_none, reduceIte, Nat.reduceAdd, Nat.reduceSub, Nat.reduceLeDiff, Nat.reduceLT, Int.reduceAdd, Int.reduceSub, Bool.not_true, Bool.not_false, ne_eq, not_true_eq_false, not_false_eq_true, gt_iff_lt, ge_iff_le, e5, sn, e6, ix, l2]
        rfl
    · have e5 : ((rs.map (rho ns)).map rD).length ≤ lim := by
        rw [List.length_map, List.length_map]
        exact hr1
      obtain ⟨os, h2, h3⟩ := from_r (P := fun r => r ∈ rs.map (rho ns)) (ds := ((rs.map (rho ns)).map rD).mergeSort leD) fun d hd => by
        rw [(List.mergeSort_perm _ _).mem_iff] at hd
        obtain ⟨r, hr, rfl⟩ := List.mem_map.mp hd
        exact ⟨r, rfl, hr⟩
      have sr := sort_rules (rs.map (rho ns))
      rw [h2] at sr
      have ho : ∀ r, r ∈ os ↔ ∃ q ∈ rs, rho ns q = r := fun r => by
        constructor
        · intro h
          obtain ⟨q, hq, e⟩ := List.mem_map.mp (h3 r h)
          exact ⟨q, hq, e⟩
        · rintro ⟨q, hq, rfl⟩
          have h5 : rD (rho ns q) ∈ os.map rD := by
            rw [← h2, (List.mergeSort_perm _ _).mem_iff]
            exact List.mem_map.mpr ⟨_, List.mem_map.mpr ⟨q, hq, rfl⟩, rfl⟩
          obtain ⟨r', hr', e⟩ := List.mem_map.mp h5
          rw [← rD_inj e]
          exact hr'
      have hol : os.length = rs.length := by
        have := congrArg List.length h2
        rw [(List.mergeSort_perm _ _).length_eq, List.length_map, List.length_map, List.length_map] at this
        exact this.symm
      have e6 : (os.map rD).length ≤ lim := by
        rw [List.length_map, hol]
        exact hr1
      have ho2 : ∀ r ∈ os, r.1.length ≤ lim := fun r hr => by
        obtain ⟨q, hq, rfl⟩ := (ho r).mp hr
        show (img ns q.1).length ≤ lim
        rw [il]
        exact hr2 q hq
      rw [m1]
      simp only [↓wv_var, ↓wv_con, ↓wv_glo, ↓wv_bin, ↓wv_neg, ↓wv_not, ↓wv_and, ↓wv_or, ↓wv_and1, ↓wv_andc, ↓wv_or1, ↓wv_orc, ↓wv_cmp, ↓wv_chn, ↓wv_ite, ↓wv_idx, ↓wv_slc, ↓wo_none, ↓wo_some, ↓wv_tup, ↓wv_lst, ↓wv_dnew, ↓wv_bi, ↓wv_rgl, ↓wv_mt, ↓wv_isi, ↓wv_isn, ↓wv_ntn, ↓ws_nil, ↓ws_cons, ↓wv_call, ↓wv_callk, ↓wv_lc, ↓wv_gx, ↓wp_stp, ↓wtt_nil, ↓wtt_cons, ↓wi_seq, ↓wi_rng, ↓wi_rng2, ↓Wr_int, ↓Wr2_int, ↓wx_nil, ↓seq_nx, ↓seq_rt, ↓seq_bk, ↓seq_ct, ↓wx_cons, ↓wx_asg, ↓wx_asgLc, ↓wx_par, ↓wx_sset, ↓wx_aug, ↓wx_exp, ↓wx_ret, ↓wx_retn, ↓wx_ifs, ↓wx_trn, ↓wx_fr, ↓wx_brk, ↓wx_cnt, ↓wx_pas, ↓Wp_some, ↓Wp_none, ↓Wo_some, ↓Wo_none, ↓Wx_some, ↓Wx_none, ↓Wv_some, ↓Wt_true, ↓Wt_false, ↓Wt_none, ↓Wp_bd, ↓Wp_map, ↓Wp_bind, ↓Wo_map, ↓Wo_bind, ↓Wp_if, ↓Wo_if, l_addi, l_sub, l_muli, l_mod, l_fdiv, l_addt, l_addl, l_pow18, l_iadd, l_eqi, l_nei, l_lti, l_lei, l_gti, l_gei, l_eqb, l_ixt, l_ixl, l_ix0, l_set0, l_tbl, l_tint, l_ttup, l_tlst, l_tnon, l_inti, l_intb, l_abs, l_lenl, l_lent, l_min2, l_max2, l_listl, l_listt, l_tupl, l_tupt, l_sorted, l_rgl, l_rgt, l_src_t, l_src_l, l_src_r, l_isit, l_isii, l_isiib, l_isiis, l_isiit, l_isbb, l_isbt, l_newLf, l_newLt, l_newT, l_slct, l_slcl, l_slcr, l_nm, l_tp2, List.getElem?_cons_zero, List.getElem?_cons_succ, List.set_cons_zero, List.set_cons_succ, List.length_cons, List.length_nil, List.map_cons, List.map_nil, List.cons_append, List.nil_append, List.replicate_succ, List.replicate_zero, List.append_nil, wipeD, setAll, true_and, and_true, if_true, if_false, Bool.false_eq_true, ite_true, ite_false, Option.toList_some, Option.toList_none, reduceIte, Nat.reduceAdd, Nat.reduceSub, Nat.reduceLeDiff, Nat.reduceLT, Int.reduceAdd, Int.reduceSub, Bool.not_true, Bool.not_false, ne_eq, not_true_eq_false, not_false_eq_true, gt_iff_lt, ge_iff_le, e5, sr, e6, src_ks]
      refine comp_all f2 rfl _ (fun d hd => ?_) ?_
      · obtain ⟨l, hl, rfl⟩ := List.mem_map.mp hd
        have hl4 := hkp rs l hl
        rw [hf2]
        simp only [↓wv_var, ↓wv_con, ↓wv_glo, ↓wv_bin, ↓wv_neg, ↓wv_not, ↓wv_and, ↓wv_or, ↓wv_and1, ↓wv_andc, ↓wv_or1, ↓wv_orc, ↓wv_cmp, ↓wv_chn, ↓wv_ite, ↓wv_idx, ↓wv_slc, ↓wo_none, ↓wo_some, ↓wv_tup, ↓wv_lst, ↓wv_dnew, ↓wv_bi, ↓wv_rgl, ↓wv_mt, ↓wv_isi, ↓wv_isn, ↓wv_ntn, ↓ws_nil, ↓ws_cons, ↓wv_call, ↓wv_callk, ↓wv_lc, ↓wv_gx, ↓wp_stp, ↓wtt_nil, ↓wtt_cons, ↓wi_seq, ↓wi_rng, ↓wi_rng2, ↓Wr_int, ↓Wr2_int, ↓wx_nil, ↓seq_nx, ↓seq_rt, ↓seq_bk, ↓seq_ct, ↓wx_cons, ↓wx_asg, ↓wx_asgLc, ↓wx_par, ↓wx_sset, ↓wx_aug, ↓wx_exp, ↓wx_ret, ↓wx_retn, ↓wx_ifs, ↓wx_trn, ↓wx_fr, ↓wx_brk, ↓wx_cnt, ↓wx_pas, ↓Wp_some, ↓Wp_none, ↓Wo_some, ↓Wo_none, ↓Wx_some, ↓Wx_none, ↓Wv_some, ↓Wt_true, ↓Wt_false, ↓Wt_none, ↓Wp_bd, ↓Wp_map, ↓Wp_bind, ↓Wo_map, ↓Wo_bind, ↓Wp_if, ↓Wo_if, l_addi, l_sub, l_muli, l_mod, l_fdiv, l_addt, l_addl, l_pow18, l_iadd, l_eqi, l_nei, l_lti, l_lei, l_gti, l_gei, l_eqb, l_ixt, l_ixl, l_ix0, l_set0, l_tbl, l_tint, l_ttup, l_tlst, l_tnon, l_inti, l_intb, l_abs, l_lenl, l_lent, l_min2, l_max2, l_listl, l_listt, l_tupl, l_tupt, l_sorted, l_rgl, l_rgt, l_src_t, l_src_l, l_src_r, l_isit, l_isii, l_isiib, l_isiis, l_isiit, l_isbb, l_isbt, l_newLf, l_newLt, l_newT, l_slct, l_slcl, l_slcr, l_nm, l_tp2, List.getElem?_cons_zero, List.getElem?_cons_succ, List.set_cons_zero, List.set_cons_succ, List.length_cons, List.length_nil, List.map_cons, List.map_nil, List.cons_append, List.nil_append, List.replicate_succ, List.replicate_zero, List.append_nil, wipeD, setAll, true_and, and_true, if_true, if_false, Bool.false_eq_true, ite_true, ite_false, Option.toList_some, Option.toList_none, reduceIte, Nat.reduceAdd, Nat.reduceSub, Nat.reduceLeDiff, Nat.reduceLT, Int.reduceAdd, Int.reduceSub, Bool.not_true, Bool.not_false, ne_eq, not_true_eq_false, not_false_eq_true, gt_iff_lt, ge_iff_le, src_tN]
        refine comp_all f3 rfl _ (fun d hd => ?_) ?_
        · obtain ⟨x, hx, rfl⟩ := List.mem_map.mp hd
          have hxn : x < n' := List.mem_range.mp ((mem_kept.mp hl).1.subset hx)
          have ix : ∀ s, idxD (.lst (ns.map nD)) (nD x) s = some (nD (nm ns x)) := fun s => nm_ix hns hxn s
          rw [hf3]
          simp only [↓wv_var, ↓wv_con, ↓wv_glo, ↓wv_bin, ↓wv_neg, ↓wv_not, ↓wv_and, ↓wv_or, ↓wv_and1, ↓wv_andc, ↓wv_or1, ↓wv_orc, ↓wv_cmp, ↓wv_chn, ↓wv_ite, ↓wv_idx, ↓wv_slc, ↓wo_none, ↓wo_some, ↓wv_tup, ↓wv_lst, ↓wv_dnew, ↓wv_bi, ↓wv_rgl, ↓wv_mt, ↓wv_isi, ↓wv_isn, ↓wv_ntn, ↓ws_nil, ↓ws_cons, ↓wv_call, ↓wv_callk, ↓wv_lc, ↓wv_gx, ↓wp_stp, ↓wtt_nil, ↓wtt_cons, ↓wi_seq, ↓wi_rng, ↓wi_rng2, ↓Wr_int, ↓Wr2_int, ↓wx_nil, ↓seq_nx, ↓seq_rt, ↓seq_bk, ↓seq_ct, ↓wx_cons, ↓wx_asg, ↓wx_asgLc, ↓wx_par, ↓wx_sset, ↓wx_aug, ↓wx_exp, ↓wx_ret, ↓wx_retn, ↓wx_ifs, ↓wx_trn, ↓wx_fr, ↓wx_brk, ↓wx_cnt, ↓wx_pas, ↓Wp_some, ↓Wp_none, ↓Wo_some, ↓Wo_none, ↓Wx_some, ↓Wx_none, ↓Wv_some, ↓Wt_true, ↓Wt_false, ↓Wt_none, ↓Wp_bd, ↓Wp_map, ↓Wp_bind, ↓Wo_map, ↓Wo_bind, ↓Wp_if, ↓Wo_if, l_addi, l_sub, l_muli, l_mod, l_fdiv, l_addt, l_addl, l_pow18, l_iadd, l_eqi, l_nei, l_lti, l_lei, l_gti, l_gei, l_eqb, l_ixt, l_ixl, l_ix0, l_set0, l_tbl, l_tint, l_ttup, l_tlst, l_tnon, l_inti, l_intb, l_abs, l_lenl, l_lent, l_min2, l_max2, l_listl, l_listt, l_tupl, l_tupt, l_sorted, l_rgl, l_rgt, l_src_t, l_src_l, l_src_r, l_isit, l_isii, l_isiib, l_isiis, l_isiit, l_isbb, l_isbt, l_newLf, l_newLt, l_newT, l_slct, l_slcl, l_slcr, l_nm, l_tp2, List.getElem?_cons_zero, List.getElem?_cons_succ, List.set_cons_zero, List.set_cons_succ, List.length_cons, List.length_nil, List.map_cons, List.map_nil, List.cons_append, List.nil_append, List.replicate_succ, List.replicate_zero, List.append_nil, wipeD, setAll, true_and, and_true, if_true, if_false, Bool.false_eq_true, ite_true, ite_false, Option.toList_some, Option.toList_none, reduceIte, Nat.reduceAdd, Nat.reduceSub, Nat.reduceLeDiff, Nat.reduceLT, Int.reduceAdd, Int.reduceSub, Bool.not_true, Bool.not_false, ne_eq, not_true_eq_false, not_false_eq_true, gt_iff_lt, ge_iff_le, ix]
        · have e7 : ((l.map (nm ns)).map nD).length ≤ lim := by
            rw [List.length_map, List.length_map]
            exact lim_big (by omega)
          have e8 : ((img ns l).map nD).length ≤ lim := by
            rw [List.length_map, il]
            exact lim_big (by omega)
          rw [m3]
          simp only [↓wv_var, ↓wv_con, ↓wv_glo, ↓wv_bin, ↓wv_neg, ↓wv_not, ↓wv_and, ↓wv_or, ↓wv_and1, ↓wv_andc, ↓wv_or1, ↓wv_orc, ↓wv_cmp, ↓wv_chn, ↓wv_ite, ↓wv_idx, ↓wv_slc, ↓wo_none, ↓wo_some, ↓wv_tup, ↓wv_lst, ↓wv_dnew, ↓wv_bi, ↓wv_rgl, ↓wv_mt, ↓wv_isi, ↓wv_isn, ↓wv_ntn, ↓ws_nil, ↓ws_cons, ↓wv_call, ↓wv_callk, ↓wv_lc, ↓wv_gx, ↓wp_stp, ↓wtt_nil, ↓wtt_cons, ↓wi_seq, ↓wi_rng, ↓wi_rng2, ↓Wr_int, ↓Wr2_int, ↓wx_nil, ↓seq_nx, ↓seq_rt, ↓seq_bk, ↓seq_ct, ↓wx_cons, ↓wx_asg, ↓wx_asgLc, ↓wx_par, ↓wx_sset, ↓wx_aug, ↓wx_exp, ↓wx_ret, ↓wx_retn, ↓wx_ifs, ↓wx_trn, ↓wx_fr, ↓wx_brk, ↓wx_cnt, ↓wx_pas, ↓Wp_some, ↓Wp_none, ↓Wo_some, ↓Wo_none, ↓Wx_some, ↓Wx_none, ↓Wv_some, ↓Wt_true, ↓Wt_false, ↓Wt_none, ↓Wp_bd, ↓Wp_map, ↓Wp_bind, ↓Wo_map, ↓Wo_bind, ↓Wp_if, ↓Wo_if, l_addi, l_sub, l_muli, l_mod, l_fdiv, l_addt, l_addl, l_pow18, l_iadd, l_eqi, l_nei, l_lti, l_lei, l_gti, l_gei, l_eqb, l_ixt, l_ixl, l_ix0, l_set0, l_tbl, l_tint, l_ttup, l_tlst, l_tnon, l_inti, l_intb, l_abs, l_lenl, l_lent, l_min2, l_max2, l_listl, l_listt, l_tupl, l_tupt, l_sorted, l_rgl, l_rgt, l_src_t, l_src_l, l_src_r, l_isit, l_isii, l_isiib, l_isiis, l_isiit, l_isbb, l_isbt, l_newLf, l_newLt, l_newT, l_slct, l_slcl, l_slcr, l_nm, l_tp2, List.getElem?_cons_zero, List.getElem?_cons_succ, List.set_cons_zero, List.set_cons_succ, List.length_cons, List.length_nil, List.map_cons, List.map_nil, List.cons_append, List.nil_append, List.replicate_succ, List.replicate_zero, List.append_nil, wipeD, setAll, true_and, and_true, if_true, if_false, Bool.false_eq_true, ite_true, ite_false, Option.toList_some, Option.toList_none, reduceIte, Nat.reduceAdd, Nat.reduceSub, Nat.reduceLeDiff, Nat.reduceLT, Int.reduceAdd, Int.reduceSub, Bool.not_true, Bool.not_false, ne_eq, not_true_eq_false, not_false_eq_true, gt_iff_lt, ge_iff_le, e7, sn, e8]
          rfl
      · have e7 : (((kept n' rs).map (img ns)).map tN).length ≤ lim := by
          rw [List.length_map, List.length_map]
          exact lim_big (by have := hk16 rs; omega)
        have e8 : ((srt ((kept n' rs).map (img ns))).map tN).length ≤ lim := by
          rw [List.length_map, (srt_perm _).length_eq, List.length_map]
          exact lim_big (by have := hk16 rs; omega)
        have e9 := sortD_n ((kept n' rs).map (img ns))
        rw [m2]
        simp only [↓wv_var, ↓wv_con, ↓wv_glo, ↓wv_bin, ↓wv_neg, ↓wv_not, ↓wv_and, ↓wv_or, ↓wv_and1, ↓wv_andc, ↓wv_or1, ↓wv_orc, ↓wv_cmp, ↓wv_chn, ↓wv_ite, ↓wv_idx, ↓wv_slc, ↓wo_none, ↓wo_some, ↓wv_tup, ↓wv_lst, ↓wv_dnew, ↓wv_bi, ↓wv_rgl, ↓wv_mt, ↓wv_isi, ↓wv_isn, ↓wv_ntn, ↓ws_nil, ↓ws_cons, ↓wv_call, ↓wv_callk, ↓wv_lc, ↓wv_gx, ↓wp_stp, ↓wtt_nil, ↓wtt_cons, ↓wi_seq, ↓wi_rng, ↓wi_rng2, ↓Wr_int, ↓Wr2_int, ↓wx_nil, ↓seq_nx, ↓seq_rt, ↓seq_bk, ↓seq_ct, ↓wx_cons, ↓wx_asg, ↓wx_asgLc, ↓wx_par, ↓wx_sset, ↓wx_aug, ↓wx_exp, ↓wx_ret, ↓wx_retn, ↓wx_ifs, ↓wx_trn, ↓wx_fr, ↓wx_brk, ↓wx_cnt, ↓wx_pas, ↓Wp_some, ↓Wp_none, ↓Wo_some, ↓Wo_none, ↓Wx_some, ↓Wx_none, ↓Wv_some, ↓Wt_true, ↓Wt_false, ↓Wt_none, ↓Wp_bd, ↓Wp_map, ↓Wp_bind, ↓Wo_map, ↓Wo_bind, ↓Wp_if, ↓Wo_if, l_addi, l_sub, l_muli, l_mod, l_fdiv, l_addt, l_addl, l_pow18, l_iadd, l_eqi, l_nei, l_lti, l_lei, l_gti, l_gei, l_eqb, l_ixt, l_ixl, l_ix0, l_set0, l_tbl, l_tint, l_ttup, l_tlst, l_tnon, l_inti, l_intb, l_abs, l_lenl, l_lent, l_min2, l_max2, l_listl, l_listt, l_tupl, l_tupt, l_sorted, l_rgl, l_rgt, l_src_t, l_src_l, l_src_r, l_isit, l_isii, l_isiib, l_isiis, l_isiit, l_isbb, l_isbt, l_newLf, l_newLt, l_newT, l_slct, l_slcl, l_slcr, l_nm, l_tp2, List.getElem?_cons_zero, List.getElem?_cons_succ, List.set_cons_zero, List.set_cons_succ, List.length_cons, List.length_nil, List.map_cons, List.map_nil, List.cons_append, List.nil_append, List.replicate_succ, List.replicate_zero, List.append_nil, wipeD, setAll, true_and, and_true, if_true, if_false, Bool.false_eq_true, ite_true, ite_false, Option.toList_some, Option.toList_none, reduceIte, Nat.reduceAdd, Nat.reduceSub, Nat.reduceLeDiff, Nat.reduceLT, Int.reduceAdd, Int.reduceSub, Bool.not_true, Bool.not_false, ne_eq, not_true_eq_false, not_false_eq_true, gt_iff_lt, ge_iff_le, e7, e9, e8]
        refine told_wp hn4 (by rw [hol]; exact hr1) ho2 ?_
        rw [led_kept hns hw ho]
        simp only [↓wv_var, ↓wv_con, ↓wv_glo, ↓wv_bin, ↓wv_neg, ↓wv_not, ↓wv_and, ↓wv_or, ↓wv_and1, ↓wv_andc, ↓wv_or1, ↓wv_orc, ↓wv_cmp, ↓wv_chn, ↓wv_ite, ↓wv_idx, ↓wv_slc, ↓wo_none, ↓wo_some, ↓wv_tup, ↓wv_lst, ↓wv_dnew, ↓wv_bi, ↓wv_rgl, ↓wv_mt, ↓wv_isi, ↓wv_isn, ↓wv_ntn, ↓ws_nil, ↓ws_cons, ↓wv_call, ↓wv_callk, ↓wv_lc, ↓wv_gx, ↓wp_stp, ↓wtt_nil, ↓wtt_cons, ↓wi_seq, ↓wi_rng, ↓wi_rng2, ↓Wr_int, ↓Wr2_int, ↓wx_nil, ↓seq_nx, ↓seq_rt, ↓seq_bk, ↓seq_ct, ↓wx_cons, ↓wx_asg, ↓wx_asgLc, ↓wx_par, ↓wx_sset, ↓wx_aug, ↓wx_exp, ↓wx_ret, ↓wx_retn, ↓wx_ifs, ↓wx_trn, ↓wx_fr, ↓wx_brk, ↓wx_cnt, ↓wx_pas, ↓Wp_some, ↓Wp_none, ↓Wo_some, ↓Wo_none, ↓Wx_some, ↓Wx_none, ↓Wv_some, ↓Wt_true, ↓Wt_false, ↓Wt_none, ↓Wp_bd, ↓Wp_map, ↓Wp_bind, ↓Wo_map, ↓Wo_bind, ↓Wp_if, ↓Wo_if, l_addi, l_sub, l_muli, l_mod, l_fdiv, l_addt, l_addl, l_pow18, l_iadd, l_eqi, l_nei, l_lti, l_lei, l_gti, l_gei, l_eqb, l_ixt, l_ixl, l_ix0, l_set0, l_tbl, l_tint, l_ttup, l_tlst, l_tnon, l_inti, l_intb, l_abs, l_lenl, l_lent, l_min2, l_max2, l_listl, l_listt, l_tupl, l_tupt, l_sorted, l_rgl, l_rgt, l_src_t, l_src_l, l_src_r, l_isit, l_isii, l_isiib, l_isiis, l_isiit, l_isbb, l_isbt, l_newLf, l_newLt, l_newT, l_slct, l_slcl, l_slcr, l_nm, l_tp2, List.getElem?_cons_zero, List.getElem?_cons_succ, List.set_cons_zero, List.set_cons_succ, List.length_cons, List.length_nil, List.map_cons, List.map_nil, List.cons_append, List.nil_append, List.replicate_succ, List.replicate_zero, List.append_nil, wipeD, setAll, true_and, and_true, if_true, if_false, Bool.false_eq_true, ite_true, ite_false, Option.toList_some, Option.toList_none, reduceIte, Nat.reduceAdd, Nat.reduceSub, Nat.reduceLeDiff, Nat.reduceLT, Int.reduceAdd, Int.reduceSub, Bool.not_true, Bool.not_false, ne_eq, not_true_eq_false, not_false_eq_true, gt_iff_lt, ge_iff_le]
        refine same_wp hP8 _ _ (by have := plk os; rw [led_kept hns hw ho] at this; exact this) (Nat.lt_of_le_of_lt (dek _) (by decide)) ?_
        have kl : ((kept n' rs).map tN).length ≤ lim := by
          rw [List.length_map]
          exact lim_big (by have := hk16 rs; omega)
        have k0 : 0 < ((kept n' rs).map tN).length := by
          rw [List.length_map]
          exact List.length_pos_of_mem (full_kept hw)
        have kp : purs ((kept n' rs).map tN) = true := purs_all.mpr fun d hd => by
          obtain ⟨l, _, rfl⟩ := List.mem_map.mp hd
          exact purs_n l
        simp only [↓wv_var, ↓wv_con, ↓wv_glo, ↓wv_bin, ↓wv_neg, ↓wv_not, ↓wv_and, ↓wv_or, ↓wv_and1, ↓wv_andc, ↓wv_or1, ↓wv_orc, ↓wv_cmp, ↓wv_chn, ↓wv_ite, ↓wv_idx, ↓wv_slc, ↓wo_none, ↓wo_some, ↓wv_tup, ↓wv_lst, ↓wv_dnew, ↓wv_bi, ↓wv_rgl, ↓wv_mt, ↓wv_isi, ↓wv_isn, ↓wv_ntn, ↓ws_nil, ↓ws_cons, ↓wv_call, ↓wv_callk, ↓wv_lc, ↓wv_gx, ↓wp_stp, ↓wtt_nil, ↓wtt_cons, ↓wi_seq, ↓wi_rng, ↓wi_rng2, ↓Wr_int, ↓Wr2_int, ↓wx_nil, ↓seq_nx, ↓seq_rt, ↓seq_bk, ↓seq_ct, ↓wx_cons, ↓wx_asg, ↓wx_asgLc, ↓wx_par, ↓wx_sset, ↓wx_aug, ↓wx_exp, ↓wx_ret, ↓wx_retn, ↓wx_ifs, ↓wx_trn, ↓wx_fr, ↓wx_brk, ↓wx_cnt, ↓wx_pas, ↓Wp_some, ↓Wp_none, ↓Wo_some, ↓Wo_none, ↓Wx_some, ↓Wx_none, ↓Wv_some, ↓Wt_true, ↓Wt_false, ↓Wt_none, ↓Wp_bd, ↓Wp_map, ↓Wp_bind, ↓Wo_map, ↓Wo_bind, ↓Wp_if, ↓Wo_if, l_addi, l_sub, l_muli, l_mod, l_fdiv, l_addt, l_addl, l_pow18, l_iadd, l_eqi, l_nei, l_lti, l_lei, l_gti, l_gei, l_eqb, l_ixt, l_ixl, l_ix0, l_set0, l_tbl, l_tint, l_ttup, l_tlst, l_tnon, l_inti, l_intb, l_abs, l_lenl, l_lent, l_min2, l_max2, l_listl, l_listt, l_tupl, l_tupt, l_sorted, l_rgl, l_rgt, l_src_t, l_src_l, l_src_r, l_isit, l_isii, l_isiib, l_isiis, l_isiit, l_isbb, l_isbt, l_newLf, l_newLt, l_newT, l_slct, l_slcl, l_slcr, l_nm, l_tp2, List.getElem?_cons_zero, List.getElem?_cons_succ, List.set_cons_zero, List.set_cons_succ, List.length_cons, List.length_nil, List.map_cons, List.map_nil, List.cons_append, List.nil_append, List.replicate_succ, List.replicate_zero, List.append_nil, wipeD, setAll, true_and, and_true, if_true, if_false, Bool.false_eq_true, ite_true, ite_false, Option.toList_some, Option.toList_none, reduceIte, Nat.reduceAdd, Nat.reduceSub, Nat.reduceLeDiff, Nat.reduceLT, Int.reduceAdd, Int.reduceSub, Bool.not_true, Bool.not_false, ne_eq, not_true_eq_false, not_false_eq_true, gt_iff_lt, ge_iff_le, list_ks, kl]
        refine pick_wp hP5 hd (.inl rfl) hf k0 kl kp fun y fl hy hf => ?_
        obtain ⟨one, h1, rfl⟩ := List.mem_map.mp hy
        simp only [↓wv_var, ↓wv_con, ↓wv_glo, ↓wv_bin, ↓wv_neg, ↓wv_not, ↓wv_and, ↓wv_or, ↓wv_and1, ↓wv_andc, ↓wv_or1, ↓wv_orc, ↓wv_cmp, ↓wv_chn, ↓wv_ite, ↓wv_idx, ↓wv_slc, ↓wo_none, ↓wo_some, ↓wv_tup, ↓wv_lst, ↓wv_dnew, ↓wv_bi, ↓wv_rgl, ↓wv_mt, ↓wv_isi, ↓wv_isn, ↓wv_ntn, ↓ws_nil, ↓ws_cons, ↓wv_call, ↓wv_callk, ↓wv_lc, ↓wv_gx, ↓wp_stp, ↓wtt_nil, ↓wtt_cons, ↓wi_seq, ↓wi_rng, ↓wi_rng2, ↓Wr_int, ↓Wr2_int, ↓wx_nil, ↓seq_nx, ↓seq_rt, ↓seq_bk, ↓seq_ct, ↓wx_cons, ↓wx_asg, ↓wx_asgLc, ↓wx_par, ↓wx_sset, ↓wx_aug, ↓wx_exp, ↓wx_ret, ↓wx_retn, ↓wx_ifs, ↓wx_trn, ↓wx_fr, ↓wx_brk, ↓wx_cnt, ↓wx_pas, ↓Wp_some, ↓Wp_none, ↓Wo_some, ↓Wo_none, ↓Wx_some, ↓Wx_none, ↓Wv_some, ↓Wt_true, ↓Wt_false, ↓Wt_none, ↓Wp_bd, ↓Wp_map, ↓Wp_bind, ↓Wo_map, ↓Wo_bind, ↓Wp_if, ↓Wo_if, l_addi, l_sub, l_muli, l_mod, l_fdiv, l_addt, l_addl, l_pow18, l_iadd, l_eqi, l_nei, l_lti, l_lei, l_gti, l_gei, l_eqb, l_ixt, l_ixl, l_ix0, l_set0, l_tbl, l_tint, l_ttup, l_tlst, l_tnon, l_inti, l_intb, l_abs, l_lenl, l_lent, l_min2, l_max2, l_listl, l_listt, l_tupl, l_tupt, l_sorted, l_rgl, l_rgt, l_src_t, l_src_l, l_src_r, l_isit, l_isii, l_isiib, l_isiis, l_isiit, l_isbb, l_isbt, l_newLf, l_newLt, l_newT, l_slct, l_slcl, l_slcr, l_nm, l_tp2, List.getElem?_cons_zero, List.getElem?_cons_succ, List.set_cons_zero, List.set_cons_succ, List.length_cons, List.length_nil, List.map_cons, List.map_nil, List.cons_append, List.nil_append, List.replicate_succ, List.replicate_zero, List.append_nil, wipeD, setAll, true_and, and_true, if_true, if_false, Bool.false_eq_true, ite_true, ite_false, Option.toList_some, Option.toList_none, reduceIte, Nat.reduceAdd, Nat.reduceSub, Nat.reduceLeDiff, Nat.reduceLT, Int.reduceAdd, Int.reduceSub, Bool.not_true, Bool.not_false, ne_eq, not_true_eq_false, not_false_eq_true, gt_iff_lt, ge_iff_le, list_ks, kl]
        refine pick_wp hP5 hd (.inl rfl) hf k0 kl kp fun y fl hy hf => ?_
        obtain ⟨two, h2, rfl⟩ := List.mem_map.mp hy
        obtain ⟨f4, hf4⟩ := ext_fo (e := nD) (fun a b h => nD_inj.mp h) fun x => if decide (x ∈ two) = true then some (nD x) else none
        simp only [↓wv_var, ↓wv_con, ↓wv_glo, ↓wv_bin, ↓wv_neg, ↓wv_not, ↓wv_and, ↓wv_or, ↓wv_and1, ↓wv_andc, ↓wv_or1, ↓wv_orc, ↓wv_cmp, ↓wv_chn, ↓wv_ite, ↓wv_idx, ↓wv_slc, ↓wo_none, ↓wo_some, ↓wv_tup, ↓wv_lst, ↓wv_dnew, ↓wv_bi, ↓wv_rgl, ↓wv_mt, ↓wv_isi, ↓wv_isn, ↓wv_ntn, ↓ws_nil, ↓ws_cons, ↓wv_call, ↓wv_callk, ↓wv_lc, ↓wv_gx, ↓wp_stp, ↓wtt_nil, ↓wtt_cons, ↓wi_seq, ↓wi_rng, ↓wi_rng2, ↓Wr_int, ↓Wr2_int, ↓wx_nil, ↓seq_nx, ↓seq_rt, ↓seq_bk, ↓seq_ct, ↓wx_cons, ↓wx_asg, ↓wx_asgLc, ↓wx_par, ↓wx_sset, ↓wx_aug, ↓wx_exp, ↓wx_ret, ↓wx_retn, ↓wx_ifs, ↓wx_trn, ↓wx_fr, ↓wx_brk, ↓wx_cnt, ↓wx_pas, ↓Wp_some, ↓Wp_none, ↓Wo_some, ↓Wo_none, ↓Wx_some, ↓Wx_none, ↓Wv_some, ↓Wt_true, ↓Wt_false, ↓Wt_none, ↓Wp_bd, ↓Wp_map, ↓Wp_bind, ↓Wo_map, ↓Wo_bind, ↓Wp_if, ↓Wo_if, l_addi, l_sub, l_muli, l_mod, l_fdiv, l_addt, l_addl, l_pow18, l_iadd, l_eqi, l_nei, l_lti, l_lei, l_gti, l_gei, l_eqb, l_ixt, l_ixl, l_ix0, l_set0, l_tbl, l_tint, l_ttup, l_tlst, l_tnon, l_inti, l_intb, l_abs, l_lenl, l_lent, l_min2, l_max2, l_listl, l_listt, l_tupl, l_tupt, l_sorted, l_rgl, l_rgt, l_src_t, l_src_l, l_src_r, l_isit, l_isii, l_isiib, l_isiis, l_isiit, l_isbb, l_isbt, l_newLf, l_newLt, l_newT, l_slct, l_slcl, l_slcr, l_nm, l_tp2, List.getElem?_cons_zero, List.getElem?_cons_succ, List.set_cons_zero, List.set_cons_succ, List.length_cons, List.length_nil, List.map_cons, List.map_nil, List.cons_append, List.nil_append, List.replicate_succ, List.replicate_zero, List.append_nil, wipeD, setAll, true_and, and_true, if_true, if_false, Bool.false_eq_true, ite_true, ite_false, Option.toList_some, Option.toList_none, reduceIte, Nat.reduceAdd, Nat.reduceSub, Nat.reduceLeDiff, Nat.reduceLT, Int.reduceAdd, Int.reduceSub, Bool.not_true, Bool.not_false, ne_eq, not_true_eq_false, not_false_eq_true, gt_iff_lt, ge_iff_le, l2, src_tN]
        refine comp_map f4 rfl _ (fun d hd => ?_) ?_
        · obtain ⟨x, hx, rfl⟩ := List.mem_map.mp hd
          rw [hf4]
          simp only [↓wv_var, ↓wv_con, ↓wv_glo, ↓wv_bin, ↓wv_neg, ↓wv_not, ↓wv_and, ↓wv_or, ↓wv_and1, ↓wv_andc, ↓wv_or1, ↓wv_orc, ↓wv_cmp, ↓wv_chn, ↓wv_ite, ↓wv_idx, ↓wv_slc, ↓wo_none, ↓wo_some, ↓wv_tup, ↓wv_lst, ↓wv_dnew, ↓wv_bi, ↓wv_rgl, ↓wv_mt, ↓wv_isi, ↓wv_isn, ↓wv_ntn, ↓ws_nil, ↓ws_cons, ↓wv_call, ↓wv_callk, ↓wv_lc, ↓wv_gx, ↓wp_stp, ↓wtt_nil, ↓wtt_cons, ↓wi_seq, ↓wi_rng, ↓wi_rng2, ↓Wr_int, ↓Wr2_int, ↓wx_nil, ↓seq_nx, ↓seq_rt, ↓seq_bk, ↓seq_ct, ↓wx_cons, ↓wx_asg, ↓wx_asgLc, ↓wx_par, ↓wx_sset, ↓wx_aug, ↓wx_exp, ↓wx_ret, ↓wx_retn, ↓wx_ifs, ↓wx_trn, ↓wx_fr, ↓wx_brk, ↓wx_cnt, ↓wx_pas, ↓Wp_some, ↓Wp_none, ↓Wo_some, ↓Wo_none, ↓Wx_some, ↓Wx_none, ↓Wv_some, ↓Wt_true, ↓Wt_false, ↓Wt_none, ↓Wp_bd, ↓Wp_map, ↓Wp_bind, ↓Wo_map, ↓Wo_bind, ↓Wp_if, ↓Wo_if, l_addi, l_sub, l_muli, l_mod, l_fdiv, l_addt, l_addl, l_pow18, l_iadd, l_eqi, l_nei, l_lti, l_lei, l_gti, l_gei, l_eqb, l_ixt, l_ixl, l_ix0, l_set0, l_tbl, l_tint, l_ttup, l_tlst, l_tnon, l_inti, l_intb, l_abs, l_lenl, l_lent, l_min2, l_max2, l_listl, l_listt, l_tupl, l_tupt, l_sorted, l_rgl, l_rgt, l_src_t, l_src_l, l_src_r, l_isit, l_isii, l_isiib, l_isiis, l_isiit, l_isbb, l_isbt, l_newLf, l_newLt, l_newT, l_slct, l_slcl, l_slcr, l_nm, l_tp2, List.getElem?_cons_zero, List.getElem?_cons_succ, List.set_cons_zero, List.set_cons_succ, List.length_cons, List.length_nil, List.map_cons, List.map_nil, List.cons_append, List.nil_append, List.replicate_succ, List.replicate_zero, List.append_nil, wipeD, setAll, true_and, and_true, if_true, if_false, Bool.false_eq_true, ite_true, ite_false, Option.toList_some, Option.toList_none, reduceIte, Nat.reduceAdd, Nat.reduceSub, Nat.reduceLeDiff, Nat.reduceLT, Int.reduceAdd, Int.reduceSub, Bool.not_true, Bool.not_false, ne_eq, not_true_eq_false, not_false_eq_true, gt_iff_lt, ge_iff_le, in_n]
          cases c2 : decide (x ∈ two) <;> simp only [↓wv_var, ↓wv_con, ↓wv_glo, ↓wv_bin, ↓wv_neg, ↓wv_not, ↓wv_and, ↓wv_or, ↓wv_and1, ↓wv_andc, ↓wv_or1, ↓wv_orc, ↓wv_cmp, ↓wv_chn, ↓wv_ite, ↓wv_idx, ↓wv_slc, ↓wo_none, ↓wo_some, ↓wv_tup, ↓wv_lst, ↓wv_dnew, ↓wv_bi, ↓wv_rgl, ↓wv_mt, ↓wv_isi, ↓wv_isn, ↓wv_ntn, ↓ws_nil, ↓ws_cons, ↓wv_call, ↓wv_callk, ↓wv_lc, ↓wv_gx, ↓wp_stp, ↓wtt_nil, ↓wtt_cons, ↓wi_seq, ↓wi_rng, ↓wi_rng2, ↓Wr_int, ↓Wr2_int, ↓wx_nil, ↓seq_nx, ↓seq_rt, ↓seq_bk, ↓seq_ct, ↓wx_cons, ↓wx_asg, ↓wx_asgLc, ↓wx_par, ↓wx_sset, ↓wx_aug, ↓wx_exp, ↓wx_ret, ↓wx_retn, ↓wx_ifs, ↓wx_trn, ↓wx_fr, ↓wx_brk, ↓wx_cnt, ↓wx_pas, ↓Wp_some, ↓Wp_none, ↓Wo_some, ↓Wo_none, ↓Wx_some, ↓Wx_none, ↓Wv_some, ↓Wt_true, ↓Wt_false, ↓Wt_none, ↓Wp_bd, ↓Wp_map, ↓Wp_bind, ↓Wo_map, ↓Wo_bind, ↓Wp_if, ↓Wo_if, l_addi, l_sub, l_muli, l_mod, l_fdiv, l_addt, l_addl, l_pow18, l_iadd, l_eqi, l_nei, l_lti, l_lei, l_gti, l_gei, l_eqb, l_ixt, l_ixl, l_ix0, l_set0, l_tbl, l_tint, l_ttup, l_tlst, l_tnon, l_inti, l_intb, l_abs, l_lenl, l_lent, l_min2, l_max2, l_listl, l_listt, l_tupl, l_tupt, l_sorted, l_rgl, l_rgt, l_src_t, l_src_l, l_src_r, l_isit, l_isii, l_isiib, l_isiis, l_isiit, l_isbb, l_isbt, l_newLf, l_newLt, l_newT, l_slct, l_slcl, l_slcr, l_nm, l_tp2, List.getElem?_cons_zero, List.getElem?_cons_succ, List.set_cons_zero, List.set_cons_succ, List.length_cons, List.length_nil, List.map_cons, List.map_nil, List.cons_append, List.nil_append, List.replicate_succ, List.replicate_zero, List.append_nil, wipeD, setAll, true_and, and_true, if_true, if_false, Bool.false_eq_true, ite_true, ite_false, Option.toList_some, Option.toList_none, reduceIte, Nat.reduceAdd, Nat.reduceSub, Nat.reduceLeDiff, Nat.reduceLT, Int.reduceAdd, Int.reduceSub, Bool.not_true, Bool.not_false, ne_eq, not_true_eq_false, not_false_eq_true, gt_iff_lt, ge_iff_le]
        · rw [fm_if hf4]
          have el : ((one.filter fun x => decide (x ∈ two)).map nD).length ≤ lim := by
            rw [List.length_map]
            exact lim_big (Nat.le_trans (List.length_filter_le _ _) (by have := hkp rs one h1; omega))
          simp only [↓wv_var, ↓wv_con, ↓wv_glo, ↓wv_bin, ↓wv_neg, ↓wv_not, ↓wv_and, ↓wv_or, ↓wv_and1, ↓wv_andc, ↓wv_or1, ↓wv_orc, ↓wv_cmp, ↓wv_chn, ↓wv_ite, ↓wv_idx, ↓wv_slc, ↓wo_none, ↓wo_some, ↓wv_tup, ↓wv_lst, ↓wv_dnew, ↓wv_bi, ↓wv_rgl, ↓wv_mt, ↓wv_isi, ↓wv_isn, ↓wv_ntn, ↓ws_nil, ↓ws_cons, ↓wv_call, ↓wv_callk, ↓wv_lc, ↓wv_gx, ↓wp_stp, ↓wtt_nil, ↓wtt_cons, ↓wi_seq, ↓wi_rng, ↓wi_rng2, ↓Wr_int, ↓Wr2_int, ↓wx_nil, ↓seq_nx, ↓seq_rt, ↓seq_bk, ↓seq_ct, ↓wx_cons, ↓wx_asg, ↓wx_asgLc, ↓wx_par, ↓wx_sset, ↓wx_aug, ↓wx_exp, ↓wx_ret, ↓wx_retn, ↓wx_ifs, ↓wx_trn, ↓wx_fr, ↓wx_brk, ↓wx_cnt, ↓wx_pas, ↓Wp_some, ↓Wp_none, ↓Wo_some, ↓Wo_none, ↓Wx_some, ↓Wx_none, ↓Wv_some, ↓Wt_true, ↓Wt_false, ↓Wt_none, ↓Wp_bd, ↓Wp_map, ↓Wp_bind, ↓Wo_map, ↓Wo_bind, ↓Wp_if, ↓Wo_if, l_addi, l_sub, l_muli, l_mod, l_fdiv, l_addt, l_addl, l_pow18, l_iadd, l_eqi, l_nei, l_lti, l_lei, l_gti, l_gei, l_eqb, l_ixt, l_ixl, l_ix0, l_set0, l_tbl, l_tint, l_ttup, l_tlst, l_tnon, l_inti, l_intb, l_abs, l_lenl, l_lent, l_min2, l_max2, l_listl, l_listt, l_tupl, l_tupt, l_sorted, l_rgl, l_rgt, l_src_t, l_src_l, l_src_r, l_isit, l_isii, l_isiib, l_isiis, l_isiit, l_isbb, l_isbt, l_newLf, l_newLt, l_newT, l_slct, l_slcl, l_slcr, l_nm, l_tp2, List.getElem?_cons_zero, List.getElem?_cons_succ, List.set_cons_zero, List.set_cons_succ, List.length_cons, List.length_nil, List.map_cons, List.map_nil, List.cons_append, List.nil_append, List.replicate_succ, List.replicate_zero, List.append_nil, wipeD, setAll, true_and, and_true, if_true, if_false, Bool.false_eq_true, ite_true, ite_false, Option.toList_some, Option.toList_none, reduceIte, Nat.reduceAdd, Nat.reduceSub, Nat.reduceLeDiff, Nat.reduceLT, Int.reduceAdd, Int.reduceSub, Bool.not_true, Bool.not_false, ne_eq, not_true_eq_false, not_false_eq_true, gt_iff_lt, ge_iff_le, el, nin_ks, decide_eq_true (meet_kept h1 h2), l0, ne_rs]
          cases hre : rs.isEmpty with
          | true =>
            simp only [↓wv_var, ↓wv_con, ↓wv_glo, ↓wv_bin, ↓wv_neg, ↓wv_not, ↓wv_and, ↓wv_or, ↓wv_and1, ↓wv_andc, ↓wv_or1, ↓wv_orc, ↓wv_cmp, ↓wv_chn, ↓wv_ite, ↓wv_idx, ↓wv_slc, ↓wo_none, ↓wo_some, ↓wv_tup, ↓wv_lst, ↓wv_dnew, ↓wv_bi, ↓wv_rgl, ↓wv_mt, ↓wv_isi, ↓wv_isn, ↓wv_ntn, ↓ws_nil, ↓ws_cons, ↓wv_call, ↓wv_callk, ↓wv_lc, ↓wv_gx, ↓wp_stp, ↓wtt_nil, ↓wtt_cons, ↓wi_seq, ↓wi_rng, ↓wi_rng2, ↓Wr_int, ↓Wr2_int, ↓wx_nil, ↓seq_nx, ↓seq_rt, ↓seq_bk, ↓seq_ct, ↓wx_cons, ↓wx_asg, ↓wx_asgLc, ↓wx_par, ↓wx_sset, ↓wx_aug, ↓wx_exp, ↓wx_ret, ↓wx_retn, ↓wx_ifs, ↓wx_trn, ↓wx_fr, ↓wx_brk, ↓wx_cnt, ↓wx_pas, ↓Wp_some, ↓Wp_none, ↓Wo_some, ↓Wo_none, ↓Wx_some, ↓Wx_none, ↓Wv_some, ↓Wt_true, ↓Wt_false, ↓Wt_none, ↓Wp_bd, ↓Wp_map, ↓Wp_bind, ↓Wo_map, ↓Wo_bind, ↓Wp_if, ↓Wo_if, l_addi, l_sub, l_muli, l_mod, l_fdiv, l_addt, l_addl, l_pow18, l_iadd, l_eqi, l_nei, l_lti, l_lei, l_gti, l_gei, l_eqb, l_ixt, l_ixl, l_ix0, l_set0, l_tbl, l_tint, l_ttup, l_tlst, l_tnon, l_inti, l_intb, l_abs, l_lenl, l_lent, l_min2, l_max2, l_listl, l_listt, l_tupl, l_tupt, l_sorted, l_rgl, l_rgt, l_src_t, l_src_l, l_src_r, l_isit, l_isii, l_isiib, l_isiis, l_isiit, l_isbb, l_isbt, l_newLf, l_newLt, l_newT, l_slct, l_slcl, l_slcr, l_nm, l_tp2, List.getElem?_cons_zero, List.getElem?_cons_succ, List.set_cons_zero, List.set_cons_succ, List.length_cons, List.length_nil, List.map_cons, List.map_nil, List.cons_append, List.nil_append, List.replicate_succ, List.replicate_zero, List.append_nil, wipeD, setAll, true_and, and_true, if_true, if_false, Bool.false_eq_true, ite_true, ite_false, Option.toList_some, Option.toList_none, reduceIte, Nat.reduceAdd, Nat.reduceSub, Nat.reduceLeDiff, Nat.reduceLT, Int.reduceAdd, Int.reduceSub, Bool.not_true, Bool.not_false, ne_eq, not_true_eq_false, not_false_eq_true, gt_iff_lt, ge_iff_le]
            exact ⟨rfl, _, _, _, _, _, _, _, _, _, _, _, _, _, _, _, _, _, hf, rfl, rfl⟩
          | false =>
            have hrl : 0 < rs.length := List.length_pos_iff.mpr fun e => by rw [e] at hre; cases hre
            simp only [↓wv_var, ↓wv_con, ↓wv_glo, ↓wv_bin, ↓wv_neg, ↓wv_not, ↓wv_and, ↓wv_or, ↓wv_and1, ↓wv_andc, ↓wv_or1, ↓wv_orc, ↓wv_cmp, ↓wv_chn, ↓wv_ite, ↓wv_idx, ↓wv_slc, ↓wo_none, ↓wo_some, ↓wv_tup, ↓wv_lst, ↓wv_dnew, ↓wv_bi, ↓wv_rgl, ↓wv_mt, ↓wv_isi, ↓wv_isn, ↓wv_ntn, ↓ws_nil, ↓ws_cons, ↓wv_call, ↓wv_callk, ↓wv_lc, ↓wv_gx, ↓wp_stp, ↓wtt_nil, ↓wtt_cons, ↓wi_seq, ↓wi_rng, ↓wi_rng2, ↓Wr_int, ↓Wr2_int, ↓wx_nil, ↓seq_nx, ↓seq_rt, ↓seq_bk, ↓seq_ct, ↓wx_cons, ↓wx_asg, ↓wx_asgLc, ↓wx_par, ↓wx_sset, ↓wx_aug, ↓wx_exp, ↓wx_ret, ↓wx_retn, ↓wx_ifs, ↓wx_trn, ↓wx_fr, ↓wx_brk, ↓wx_cnt, ↓wx_pas, ↓Wp_some, ↓Wp_none, ↓Wo_some, ↓Wo_none, ↓Wx_some, ↓Wx_none, ↓Wv_some, ↓Wt_true, ↓Wt_false, ↓Wt_none, ↓Wp_bd, ↓Wp_map, ↓Wp_bind, ↓Wo_map, ↓Wo_bind, ↓Wp_if, ↓Wo_if, l_addi, l_sub, l_muli, l_mod, l_fdiv, l_addt, l_addl, l_pow18, l_iadd, l_eqi, l_nei, l_lti, l_lei, l_gti, l_gei, l_eqb, l_ixt, l_ixl, l_ix0, l_set0, l_tbl, l_tint, l_ttup, l_tlst, l_tnon, l_inti, l_intb, l_abs, l_lenl, l_lent, l_min2, l_max2, l_listl, l_listt, l_tupl, l_tupt, l_sorted, l_rgl, l_rgt, l_src_t, l_src_l, l_src_r, l_isit, l_isii, l_isiib, l_isiis, l_isiit, l_isbb, l_isbt, l_newLf, l_newLt, l_newT, l_slct, l_slcl, l_slcr, l_nm, l_tp2, List.getElem?_cons_zero, List.getElem?_cons_succ, List.set_cons_zero, List.set_cons_succ, List.length_cons, List.length_nil, List.map_cons, List.map_nil, List.cons_append, List.nil_append, List.replicate_succ, List.replicate_zero, List.append_nil, wipeD, setAll, true_and, and_true, if_true, if_false, Bool.false_eq_true, ite_true, ite_false, Option.toList_some, Option.toList_none, reduceIte, Nat.reduceAdd, Nat.reduceSub, Nat.reduceLeDiff, Nat.reduceLT, Int.reduceAdd, Int.reduceSub, Bool.not_true, Bool.not_false, ne_eq, not_true_eq_false, not_false_eq_true, gt_iff_lt, ge_iff_le, len_rs]
            refine dr_wp hd hf (by omega) (by omega) fun c fl c0 c1 hf => ?_
            obtain ⟨k, hk, rfl⟩ : ∃ k : Nat, k < rs.length ∧ c = (k : Int) := ⟨c.toNat, by omega, by omega⟩
            have e4 : rD rs[k] = .tup [tN rs[k].1, nD rs[k].2] := rfl
            have c1' : cutD (rs.map rD) none (some (k : Int)) = (rs.map rD).take k := by
              rw [cut_pre (by omega), Int.toNat_natCast]
            have c2' : cutD (rs.map rD) (some ((k : Int) + 1)) none = (rs.map rD).drop (k + 1) := by
              rw [cut_suf (by omega) (by rw [List.length_map]; omega)]
              rfl
            have c3' : ((rs.map rD).take k).length + ((rs.map rD).drop (k + 1)).length ≤ lim := by
              rw [List.length_take, List.length_drop, List.length_map]
              exact lim_big (by omega)
            have c4' : D.tup ((rs.map rD).take k ++ (rs.map rD).drop (k + 1)) = rsD (rs.take k ++ rs.drop (k + 1)) := by
              show _ = D.tup ((rs.take k ++ rs.drop (k + 1)).map rD)
              rw [List.map_append, List.map_take, List.map_drop]
            simp only [↓wv_var, ↓wv_con, ↓wv_glo, ↓wv_bin, ↓wv_neg, ↓wv_not, ↓wv_and, ↓wv_or, ↓wv_and1, ↓wv_andc, ↓wv_or1, ↓wv_orc, ↓wv_cmp, ↓wv_chn, ↓wv_ite, ↓wv_idx, ↓wv_slc, ↓wo_none, ↓wo_some, ↓wv_tup, ↓wv_lst, ↓wv_dnew, ↓wv_bi, ↓wv_rgl, ↓wv_mt, ↓wv_isi, ↓wv_isn, ↓wv_ntn, ↓ws_nil, ↓ws_cons, ↓wv_call, ↓wv_callk, ↓wv_lc, ↓wv_gx, ↓wp_stp, ↓wtt_nil, ↓wtt_cons, ↓wi_seq, ↓wi_rng, ↓wi_rng2, ↓Wr_int, ↓Wr2_int, ↓wx_nil, ↓seq_nx, ↓seq_rt, ↓seq_bk, ↓seq_ct, ↓wx_cons, ↓wx_asg, ↓wx_asgLc, ↓wx_par, ↓wx_sset, ↓wx_aug, ↓wx_exp, ↓wx_ret, ↓wx_retn, ↓wx_ifs, ↓wx_trn, ↓wx_fr, ↓wx_brk, ↓wx_cnt, ↓wx_pas, ↓Wp_some, ↓Wp_none, ↓Wo_some, ↓Wo_none, ↓Wx_some, ↓Wx_none, ↓Wv_some, ↓Wt_true, ↓Wt_false, ↓Wt_none, ↓Wp_bd, ↓Wp_map, ↓Wp_bind, ↓Wo_map, ↓Wo_bind, ↓Wp_if, ↓Wo_if, l_addi, l_sub, l_muli, l_mod, l_fdiv, l_addt, l_addl, l_pow18, l_iadd, l_eqi, l_nei, l_lti, l_lei, l_gti, l_gei, l_eqb, l_ixt, l_ixl, l_ix0, l_set0, l_tbl, l_tint, l_ttup, l_tlst, l_tnon, l_inti, l_intb, l_abs, l_lenl, l_lent, l_min2, l_max2, l_listl, l_listt, l_tupl, l_tupt, l_sorted, l_rgl, l_rgt, l_src_t, l_src_l, l_src_r, l_isit, l_isii, l_isiib, l_isiis, l_isiit, l_isbb, l_isbt, l_newLf, l_newLt, l_newT, l_slct, l_slcl, l_slcr, l_nm, l_tp2, List.getElem?_cons_zero, List.getElem?_cons_succ, List.set_cons_zero, List.set_cons_succ, List.length_cons, List.length_nil, List.map_cons, List.map_nil, List.cons_append, List.nil_append, List.replicate_succ, List.replicate_zero, List.append_nil, wipeD, setAll, true_and, and_true, if_true, if_false, Bool.false_eq_true, ite_true, ite_false, Option.toList_some, Option.toList_none, reduceIte, Nat.reduceAdd, Nat.reduceSub, Nat.reduceLeDiff, Nat.reduceLT, Int.reduceAdd, Int.reduceSub, Bool.not_true, Bool.not_false, ne_eq, not_true_eq_false, not_false_eq_true, gt_iff_lt, ge_iff_le, ix_rs hk, e4, slc_rs, c1', c2', c3', c4']
            have hsub : ∀ r ∈ rs.take k ++ rs.drop (k + 1), r ∈ rs := fun r hr => by
              rcases List.mem_append.mp hr with hr | hr
              · exact List.mem_of_mem_take hr
              · exact List.mem_of_mem_drop hr
            refine told_wp hn4 ?_ (fun r hr => hr2 r (hsub r hr)) ?_
            · rw [List.length_append, List.length_take, List.length_drop]
              exact lim_big (by omega)
            · obtain ⟨f5, hf5⟩ := ext_fo (e := tN) tN_inj fun l => if askB rs[k] l = true then some (tN l) else none
              simp only [↓wv_var, ↓wv_con, ↓wv_glo, ↓wv_bin, ↓wv_neg, ↓wv_not, ↓wv_and, ↓wv_or, ↓wv_and1, ↓wv_andc, ↓wv_or1, ↓wv_orc, ↓wv_cmp, ↓wv_chn, ↓wv_ite, ↓wv_idx, ↓wv_slc, ↓wo_none, ↓wo_some, ↓wv_tup, ↓wv_lst, ↓wv_dnew, ↓wv_bi, ↓wv_rgl, ↓wv_mt, ↓wv_isi, ↓wv_isn, ↓wv_ntn, ↓ws_nil, ↓ws_cons, ↓wv_call, ↓wv_callk, ↓wv_lc, ↓wv_gx, ↓wp_stp, ↓wtt_nil, ↓wtt_cons, ↓wi_seq, ↓wi_rng, ↓wi_rng2, ↓Wr_int, ↓Wr2_int, ↓wx_nil, ↓seq_nx, ↓seq_rt, ↓seq_bk, ↓seq_ct, ↓wx_cons, ↓wx_asg, ↓wx_asgLc, ↓wx_par, ↓wx_sset, ↓wx_aug, ↓wx_exp, ↓wx_ret, ↓wx_retn, ↓wx_ifs, ↓wx_trn, ↓wx_fr, ↓wx_brk, ↓wx_cnt, ↓wx_pas, ↓Wp_some, ↓Wp_none, ↓Wo_some, ↓Wo_none, ↓Wx_some, ↓Wx_none, ↓Wv_some, ↓Wt_true, ↓Wt_false, ↓Wt_none, ↓Wp_bd, ↓Wp_map, ↓Wp_bind, ↓Wo_map, ↓Wo_bind, ↓Wp_if, ↓Wo_if, l_addi, l_sub, l_muli, l_mod, l_fdiv, l_addt, l_addl, l_pow18, l_iadd, l_eqi, l_nei, l_lti, l_lei, l_gti, l_gei, l_eqb, l_ixt, l_ixl, l_ix0, l_set0, l_tbl, l_tint, l_ttup, l_tlst, l_tnon, l_inti, l_intb, l_abs, l_lenl, l_lent, l_min2, l_max2, l_listl, l_listt, l_tupl, l_tupt, l_sorted, l_rgl, l_rgt, l_src_t, l_src_l, l_src_r, l_isit, l_isii, l_isiib, l_isiis, l_isiit, l_isbb, l_isbt, l_newLf, l_newLt, l_newT, l_slct, l_slcl, l_slcr, l_nm, l_tp2, List.getElem?_cons_zero, List.getElem?_cons_succ, List.set_cons_zero, List.set_cons_succ, List.length_cons, List.length_nil, List.map_cons, List.map_nil, List.cons_append, List.nil_append, List.replicate_succ, List.replicate_zero, List.append_nil, wipeD, setAll, true_and, and_true, if_true, if_false, Bool.false_eq_true, ite_true, ite_false, Option.toList_some, Option.toList_none, reduceIte, Nat.reduceAdd, Nat.reduceSub, Nat.reduceLeDiff, Nat.reduceLT, Int.reduceAdd, Int.reduceSub, Bool.not_true, Bool.not_false, ne_eq, not_true_eq_false, not_false_eq_true, gt_iff_lt, ge_iff_le, src_ks]
              refine comp_map f5 rfl _ (fun d hd => ?_) ?_
              · obtain ⟨l, hl, rfl⟩ := List.mem_map.mp hd
                rw [hf5]
                simp only [↓wv_var, ↓wv_con, ↓wv_glo, ↓wv_bin, ↓wv_neg, ↓wv_not, ↓wv_and, ↓wv_or, ↓wv_and1, ↓wv_andc, ↓wv_or1, ↓wv_orc, ↓wv_cmp, ↓wv_chn, ↓wv_ite, ↓wv_idx, ↓wv_slc, ↓wo_none, ↓wo_some, ↓wv_tup, ↓wv_lst, ↓wv_dnew, ↓wv_bi, ↓wv_rgl, ↓wv_mt, ↓wv_isi, ↓wv_isn, ↓wv_ntn, ↓ws_nil, ↓ws_cons, ↓wv_call, ↓wv_callk, ↓wv_lc, ↓wv_gx, ↓wp_stp, ↓wtt_nil, ↓wtt_cons, ↓wi_seq, ↓wi_rng, ↓wi_rng2, ↓Wr_int, ↓Wr2_int, ↓wx_nil, ↓seq_nx, ↓seq_rt, ↓seq_bk, ↓seq_ct, ↓wx_cons, ↓wx_asg, ↓wx_asgLc, ↓wx_par, ↓wx_sset, ↓wx_aug, ↓wx_exp, ↓wx_ret, ↓wx_retn, ↓wx_ifs, ↓wx_trn, ↓wx_fr, ↓wx_brk, ↓wx_cnt, ↓wx_pas, ↓Wp_some, ↓Wp_none, ↓Wo_some, ↓Wo_none, ↓Wx_some, ↓Wx_none, ↓Wv_some, ↓Wt_true, ↓Wt_false, ↓Wt_none, ↓Wp_bd, ↓Wp_map, ↓Wp_bind, ↓Wo_map, ↓Wo_bind, ↓Wp_if, ↓Wo_if, l_addi, l_sub, l_muli, l_mod, l_fdiv, l_addt, l_addl, l_pow18, l_iadd, l_eqi, l_nei, l_lti, l_lei, l_gti, l_gei, l_eqb, l_ixt, l_ixl, l_ix0, l_set0, l_tbl, l_tint, l_ttup, l_tlst, l_tnon, l_inti, l_intb, l_abs, l_lenl, l_lent, l_min2, l_max2, l_listl, l_listt, l_tupl, l_tupt, l_sorted, l_rgl, l_rgt, l_src_t, l_src_l, l_src_r, l_isit, l_isii, l_isiib, l_isiis, l_isiit, l_isbb, l_isbt, l_newLf, l_newLt, l_newT, l_slct, l_slcl, l_slcr, l_nm, l_tp2, List.getElem?_cons_zero, List.getElem?_cons_succ, List.set_cons_zero, List.set_cons_succ, List.length_cons, List.length_nil, List.map_cons, List.map_nil, List.cons_append, List.nil_append, List.replicate_succ, List.replicate_zero, List.append_nil, wipeD, setAll, true_and, and_true, if_true, if_false, Bool.false_eq_true, ite_true, ite_false, Option.toList_some, Option.toList_none, reduceIte, Nat.reduceAdd, Nat.reduceSub, Nat.reduceLeDiff, Nat.reduceLT, Int.reduceAdd, Int.reduceSub, Bool.not_true, Bool.not_false, ne_eq, not_true_eq_false, not_false_eq_true, gt_iff_lt, ge_iff_le, in_n]
                unfold askB
                cases c5 : decide (rs[k].2 ∈ l) with
                | true => simp only [↓wv_var, ↓wv_con, ↓wv_glo, ↓wv_bin, ↓wv_neg, ↓wv_not, ↓wv_and, ↓wv_or, ↓wv_and1, ↓wv_andc, ↓wv_or1, ↓wv_orc, ↓wv_cmp, ↓wv_chn, ↓wv_ite, ↓wv_idx, ↓wv_slc, ↓wo_none, ↓wo_some, ↓wv_tup, ↓wv_lst, ↓wv_dnew, ↓wv_bi, ↓wv_rgl, ↓wv_mt, ↓wv_isi, ↓wv_isn, ↓wv_ntn, ↓ws_nil, ↓ws_cons, ↓wv_call, ↓wv_callk, ↓wv_lc, ↓wv_gx, ↓wp_stp, ↓wtt_nil, ↓wtt_cons, ↓wi_seq, ↓wi_rng, ↓wi_rng2, ↓Wr_int, ↓Wr2_int, ↓wx_nil, ↓seq_nx, ↓seq_rt, ↓seq_bk, ↓seq_ct, ↓wx_cons, ↓wx_asg, ↓wx_asgLc, ↓wx_par, ↓wx_sset, ↓wx_aug, ↓wx_exp, ↓wx_ret, ↓wx_retn, ↓wx_ifs, ↓wx_trn, ↓wx_fr, ↓wx_brk, ↓wx_cnt, ↓wx_pas, ↓Wp_some, ↓Wp_none, ↓Wo_some, ↓Wo_none, ↓Wx_some, ↓Wx_none, ↓Wv_some, ↓Wt_true, ↓Wt_false, ↓Wt_none, ↓Wp_bd, ↓Wp_map, ↓Wp_bind, ↓Wo_map, ↓Wo_bind, ↓Wp_if, ↓Wo_if, l_addi, l_sub, l_muli, l_mod, l_fdiv, l_addt, l_addl, l_pow18, l_iadd, l_eqi, l_nei, l_lti, l_lei, l_gti, l_gei, l_eqb, l_ixt, l_ixl, l_ix0, l_set0, l_tbl, l_tint, l_ttup, l_tlst, l_tnon, l_inti, l_intb, l_abs, l_lenl, l_lent, l_min2, l_max2, l_listl, l_listt, l_tupl, l_tupt, l_sorted, l_rgl, l_rgt, l_src_t, l_src_l, l_src_r, l_isit, l_isii, l_isiib, l_isiis, l_isiit, l_isbb, l_isbt, l_newLf, l_newLt, l_newT, l_slct, l_slcl, l_slcr, l_nm, l_tp2, List.getElem?_cons_zero, List.getElem?_cons_succ, List.set_cons_zero, List.set_cons_succ, List.length_cons, List.length_nil, List.map_cons, List.map_nil, List.cons_append, List.nil_append, List.replicate_succ, List.replicate_zero, List.append_nil, wipeD, setAll, true_and, and_true, if_true, if_false, Bool.false_eq_true, ite_true, ite_false, Option.toList_some, Option.toList_none, reduceIte, Nat.reduceAdd, Nat.reduceSub, Nat.reduceLeDiff, Nat.reduceLT, Int.reduceAdd, Int.reduceSub, Bool.not_true, Bool.not_false, ne_eq, not_true_eq_false, not_false_eq_true, gt_iff_lt, ge_iff_le, Bool.true_or]
                | false =>
                  simp only [↓wv_var, ↓wv_con, ↓wv_glo, ↓wv_bin, ↓wv_neg, ↓wv_not, ↓wv_and, ↓wv_or, ↓wv_and1, ↓wv_andc, ↓wv_or1, ↓wv_orc, ↓wv_cmp, ↓wv_chn, ↓wv_ite, ↓wv_idx, ↓wv_slc, ↓wo_none, ↓wo_some, ↓wv_tup, ↓wv_lst, ↓wv_dnew, ↓wv_bi, ↓wv_rgl, ↓wv_mt, ↓wv_isi, ↓wv_isn, ↓wv_ntn, ↓ws_nil, ↓ws_cons, ↓wv_call, ↓wv_callk, ↓wv_lc, ↓wv_gx, ↓wp_stp, ↓wtt_nil, ↓wtt_cons, ↓wi_seq, ↓wi_rng, ↓wi_rng2, ↓Wr_int, ↓Wr2_int, ↓wx_nil, ↓seq_nx, ↓seq_rt, ↓seq_bk, ↓seq_ct, ↓wx_cons, ↓wx_asg, ↓wx_asgLc, ↓wx_par, ↓wx_sset, ↓wx_aug, ↓wx_exp, ↓wx_ret, ↓wx_retn, ↓wx_ifs, ↓wx_trn, ↓wx_fr, ↓wx_brk, ↓wx_cnt, ↓wx_pas, ↓Wp_some, ↓Wp_none, ↓Wo_some, ↓Wo_none, ↓Wx_some, ↓Wx_none, ↓Wv_some, ↓Wt_true, ↓Wt_false, ↓Wt_none, ↓Wp_bd, ↓Wp_map, ↓Wp_bind, ↓Wo_map, ↓Wo_bind, ↓Wp_if, ↓Wo_if, l_addi, l_sub, l_muli, l_mod, l_fdiv, l_addt, l_addl, l_pow18, l_iadd, l_eqi, l_nei, l_lti, l_lei, l_gti, l_gei, l_eqb, l_ixt, l_ixl, l_ix0, l_set0, l_tbl, l_tint, l_ttup, l_tlst, l_tnon, l_inti, l_intb, l_abs, l_lenl, l_lent, l_min2, l_max2, l_listl, l_listt, l_tupl, l_tupt, l_sorted, l_rgl, l_rgt, l_src_t, l_src_l, l_src_r, l_isit, l_isii, l_isiib, l_isiis, l_isiit, l_isbb, l_isbt, l_newLf, l_newLt, l_newT, l_slct, l_slcl, l_slcr, l_nm, l_tp2, List.getElem?_cons_zero, List.getElem?_cons_succ, List.set_cons_zero, List.set_cons_succ, List.length_cons, List.length_nil, List.map_cons, List.map_nil, List.cons_append, List.nil_append, List.replicate_succ, List.replicate_zero, List.append_nil, wipeD, setAll, true_and, and_true, if_true, if_false, Bool.false_eq_true, ite_true, ite_false, Option.toList_some, Option.toList_none, reduceIte, Nat.reduceAdd, Nat.reduceSub, Nat.reduceLeDiff, Nat.reduceLT, Int.reduceAdd, Int.reduceSub, Bool.not_true, Bool.not_false, ne_eq, not_true_eq_false, not_false_eq_true, gt_iff_lt, ge_iff_le, Bool.false_or, src_tN]
                  refine comp_map (outN l) rfl _ (fun d hd => ?_) ?_
                  · obtain ⟨x, hx, rfl⟩ := List.mem_map.mp hd
                    rw [outN_n]
                    simp only [↓wv_var, ↓wv_con, ↓wv_glo, ↓wv_bin, ↓wv_neg, ↓wv_not, ↓wv_and, ↓wv_or, ↓wv_and1, ↓wv_andc, ↓wv_or1, ↓wv_orc, ↓wv_cmp, ↓wv_chn, ↓wv_ite, ↓wv_idx, ↓wv_slc, ↓wo_none, ↓wo_some, ↓wv_tup, ↓wv_lst, ↓wv_dnew, ↓wv_bi, ↓wv_rgl, ↓wv_mt, ↓wv_isi, ↓wv_isn, ↓wv_ntn, ↓ws_nil, ↓ws_cons, ↓wv_call, ↓wv_callk, ↓wv_lc, ↓wv_gx, ↓wp_stp, ↓wtt_nil, ↓wtt_cons, ↓wi_seq, ↓wi_rng, ↓wi_rng2, ↓Wr_int, ↓Wr2_int, ↓wx_nil, ↓seq_nx, ↓seq_rt, ↓seq_bk, ↓seq_ct, ↓wx_cons, ↓wx_asg, ↓wx_asgLc, ↓wx_par, ↓wx_sset, ↓wx_aug, ↓wx_exp, ↓wx_ret, ↓wx_retn, ↓wx_ifs, ↓wx_trn, ↓wx_fr, ↓wx_brk, ↓wx_cnt, ↓wx_pas, ↓Wp_some, ↓Wp_none, ↓Wo_some, ↓Wo_none, ↓Wx_some, ↓Wx_none, ↓Wv_some, ↓Wt_true, ↓Wt_false, ↓Wt_none, ↓Wp_bd, ↓Wp_map, ↓Wp_bind, ↓Wo_map, ↓Wo_bind, ↓Wp_if, ↓Wo_if, l_addi, l_sub, l_muli, l_mod, l_fdiv, l_addt, l_addl, l_pow18, l_iadd, l_eqi, l_nei, l_lti, l_lei, l_gti, l_gei, l_eqb, l_ixt, l_ixl, l_ix0, l_set0, l_tbl, l_tint, l_ttup, l_tlst, l_tnon, l_inti, l_intb, l_abs, l_lenl, l_lent, l_min2, l_max2, l_listl, l_listt, l_tupl, l_tupt, l_sorted, l_rgl, l_rgt, l_src_t, l_src_l, l_src_r, l_isit, l_isii, l_isiib, l_isiis, l_isiit, l_isbb, l_isbt, l_newLf, l_newLt, l_newT, l_slct, l_slcl, l_slcr, l_nm, l_tp2, List.getElem?_cons_zero, List.getElem?_cons_succ, List.set_cons_zero, List.set_cons_succ, List.length_cons, List.length_nil, List.map_cons, List.map_nil, List.cons_append, List.nil_append, List.replicate_succ, List.replicate_zero, List.append_nil, wipeD, setAll, true_and, and_true, if_true, if_false, Bool.false_eq_true, ite_true, ite_false, Option.toList_some, Option.toList_none, reduceIte, Nat.reduceAdd, Nat.reduceSub, Nat.reduceLeDiff, Nat.reduceLT, Int.reduceAdd, Int.reduceSub, Bool.not_true, Bool.not_false, ne_eq, not_true_eq_false, not_false_eq_true, gt_iff_lt, ge_iff_le, nin_n]
                    cases c2 : decide (x ∈ l) <;> simp only [↓wv_var, ↓wv_con, ↓wv_glo, ↓wv_bin, ↓wv_neg, ↓wv_not, ↓wv_and, ↓wv_or, ↓wv_and1, ↓wv_andc, ↓wv_or1, ↓wv_orc, ↓wv_cmp, ↓wv_chn, ↓wv_ite, ↓wv_idx, ↓wv_slc, ↓wo_none, ↓wo_some, ↓wv_tup, ↓wv_lst, ↓wv_dnew, ↓wv_bi, ↓wv_rgl, ↓wv_mt, ↓wv_isi, ↓wv_isn, ↓wv_ntn, ↓ws_nil, ↓ws_cons, ↓wv_call, ↓wv_callk, ↓wv_lc, ↓wv_gx, ↓wp_stp, ↓wtt_nil, ↓wtt_cons, ↓wi_seq, ↓wi_rng, ↓wi_rng2, ↓Wr_int, ↓Wr2_int, ↓wx_nil, ↓seq_nx, ↓seq_rt, ↓seq_bk, ↓seq_ct, ↓wx_cons, ↓wx_asg, ↓wx_asgLc, ↓wx_par, ↓wx_sset, ↓wx_aug, ↓wx_exp, ↓wx_ret, ↓wx_retn, ↓wx_ifs, ↓wx_trn, ↓wx_fr, ↓wx_brk, ↓wx_cnt, ↓wx_pas, ↓Wp_some, ↓Wp_none, ↓Wo_some, ↓Wo_none, ↓Wx_some, ↓Wx_none, ↓Wv_some, ↓Wt_true, ↓Wt_false, ↓Wt_none, ↓Wp_bd, ↓Wp_map, ↓Wp_bind, ↓Wo_map, ↓Wo_bind, ↓Wp_if, ↓Wo_if, l_addi, l_sub, l_muli, l_mod, l_fdiv, l_addt, l_addl, l_pow18, l_iadd, l_eqi, l_nei, l_lti, l_lei, l_gti, l_gei, l_eqb, l_ixt, l_ixl, l_ix0, l_set0, l_tbl, l_tint, l_ttup, l_tlst, l_tnon, l_inti, l_intb, l_abs, l_lenl, l_lent, l_min2, l_max2, l_listl, l_listt, l_tupl, l_tupt, l_sorted, l_rgl, l_rgt, l_src_t, l_src_l, l_src_r, l_isit, l_isii, l_isiib, l_isiis, l_isiit, l_isbb, l_isbt, l_newLf, l_newLt, l_newT, l_slct, l_slcl, l_slcr, l_nm, l_tp2, List.getElem?_cons_zero, List.getElem?_cons_succ, List.set_cons_zero, List.set_cons_succ, List.length_cons, List.length_nil, List.map_cons, List.map_nil, List.cons_append, List.nil_append, List.replicate_succ, List.replicate_zero, List.append_nil, wipeD, setAll, true_and, and_true, if_true, if_false, Bool.false_eq_true, ite_true, ite_false, Option.toList_some, Option.toList_none, reduceIte, Nat.reduceAdd, Nat.reduceSub, Nat.reduceLeDiff, Nat.reduceLT, Int.reduceAdd, Int.reduceSub, Bool.not_true, Bool.not_false, ne_eq, not_true_eq_false, not_false_eq_true, gt_iff_lt, ge_iff_le]
                  · rw [outN_map]
                    have e6 : ((rs[k].1.filter fun x => !decide (x ∈ l)).map nD).length ≤ lim := by
                      rw [List.length_map]
                      exact Nat.le_trans (List.length_filter_le _ _) (hr2 _ (List.getElem_mem hk))
                    simp only [↓wv_var, ↓wv_con, ↓wv_glo, ↓wv_bin, ↓wv_neg, ↓wv_not, ↓wv_and, ↓wv_or, ↓wv_and1, ↓wv_andc, ↓wv_or1, ↓wv_orc, ↓wv_cmp, ↓wv_chn, ↓wv_ite, ↓wv_idx, ↓wv_slc, ↓wo_none, ↓wo_some, ↓wv_tup, ↓wv_lst, ↓wv_dnew, ↓wv_bi, ↓wv_rgl, ↓wv_mt, ↓wv_isi, ↓wv_isn, ↓wv_ntn, ↓ws_nil, ↓ws_cons, ↓wv_call, ↓wv_callk, ↓wv_lc, ↓wv_gx, ↓wp_stp, ↓wtt_nil, ↓wtt_cons, ↓wi_seq, ↓wi_rng, ↓wi_rng2, ↓Wr_int, ↓Wr2_int, ↓wx_nil, ↓seq_nx, ↓seq_rt, ↓seq_bk, ↓seq_ct, ↓wx_cons, ↓wx_asg, ↓wx_asgLc, ↓wx_par, ↓wx_sset, ↓wx_aug, ↓wx_exp, ↓wx_ret, ↓wx_retn, ↓wx_ifs, ↓wx_trn, ↓wx_fr, ↓wx_brk, ↓wx_cnt, ↓wx_pas, ↓Wp_some, ↓Wp_none, ↓Wo_some, ↓Wo_none, ↓Wx_some, ↓Wx_none, ↓Wv_some, ↓Wt_true, ↓Wt_false, ↓Wt_none, ↓Wp_bd, ↓Wp_map, ↓Wp_bind, ↓Wo_map, ↓Wo_bind, ↓Wp_if, ↓Wo_if, l_addi, l_sub, l_muli, l_mod, l_fdiv, l_addt, l_addl, l_pow18, l_iadd, l_eqi, l_nei, l_lti, l_lei, l_gti, l_gei, l_eqb, l_ixt, l_ixl, l_ix0, l_set0, l_tbl, l_tint, l_ttup, l_tlst, l_tnon, l_inti, l_intb, l_abs, l_lenl, l_lent, l_min2, l_max2, l_listl, l_listt, l_tupl, l_tupt, l_sorted, l_rgl, l_rgt, l_src_t, l_src_l, l_src_r, l_isit, l_isii, l_isiib, l_isiis, l_isiit, l_isbb, l_isbt, l_newLf, l_newLt, l_newT, l_slct, l_slcl, l_slcr, l_nm, l_tp2, List.getElem?_cons_zero, List.getElem?_cons_succ, List.set_cons_zero, List.set_cons_succ, List.length_cons, List.length_nil, List.map_cons, List.map_nil, List.cons_append, List.nil_append, List.replicate_succ, List.replicate_zero, List.append_nil, wipeD, setAll, true_and, and_true, if_true, if_false, Bool.false_eq_true, ite_true, ite_false, Option.toList_some, Option.toList_none, reduceIte, Nat.reduceAdd, Nat.reduceSub, Nat.reduceLeDiff, Nat.reduceLT, Int.reduceAdd, Int.reduceSub, Bool.not_true, Bool.not_false, ne_eq, not_true_eq_false, not_false_eq_true, gt_iff_lt, ge_iff_le, e6]
                    rw [List.length_map]
                    cases c6 : decide ((0 : Int) < ((rs[k].1.filter fun x => !decide (x ∈ l)).length : Int)) <;> simp only [↓wv_var, ↓wv_con, ↓wv_glo, ↓wv_bin, ↓wv_neg, ↓wv_not, ↓wv_and, ↓wv_or, ↓wv_and1, ↓wv_andc, ↓wv_or1, ↓wv_orc, ↓wv_cmp, ↓wv_chn, ↓wv_ite, ↓wv_idx, ↓wv_slc, ↓wo_none, ↓wo_some, ↓wv_tup, ↓wv_lst, ↓wv_dnew, ↓wv_bi, ↓wv_rgl, ↓wv_mt, ↓wv_isi, ↓wv_isn, ↓wv_ntn, ↓ws_nil, ↓ws_cons, ↓wv_call, ↓wv_callk, ↓wv_lc, ↓wv_gx, ↓wp_stp, ↓wtt_nil, ↓wtt_cons, ↓wi_seq, ↓wi_rng, ↓wi_rng2, ↓Wr_int, ↓Wr2_int, ↓wx_nil, ↓seq_nx, ↓seq_rt, ↓seq_bk, ↓seq_ct, ↓wx_cons, ↓wx_asg, ↓wx_asgLc, ↓wx_par, ↓wx_sset, ↓wx_aug, ↓wx_exp, ↓wx_ret, ↓wx_retn, ↓wx_ifs, ↓wx_trn, ↓wx_fr, ↓wx_brk, ↓wx_cnt, ↓wx_pas, ↓Wp_some, ↓Wp_none, ↓Wo_some, ↓Wo_none, ↓Wx_some, ↓Wx_none, ↓Wv_some, ↓Wt_true, ↓Wt_false, ↓Wt_none, ↓Wp_bd, ↓Wp_map, ↓Wp_bind, ↓Wo_map, ↓Wo_bind, ↓Wp_if, ↓Wo_if, l_addi, l_sub, l_muli, l_mod, l_fdiv, l_addt, l_addl, l_pow18, l_iadd, l_eqi, l_nei, l_lti, l_lei, l_gti, l_gei, l_eqb, l_ixt, l_ixl, l_ix0, l_set0, l_tbl, l_tint, l_ttup, l_tlst, l_tnon, l_inti, l_intb, l_abs, l_lenl, l_lent, l_min2, l_max2, l_listl, l_listt, l_tupl, l_tupt, l_sorted, l_rgl, l_rgt, l_src_t, l_src_l, l_src_r, l_isit, l_isii, l_isiib, l_isiis, l_isiit, l_isbb, l_isbt, l_newLf, l_newLt, l_newT, l_slct, l_slcl, l_slcr, l_nm, l_tp2, List.getElem?_cons_zero, List.getElem?_cons_succ, List.set_cons_zero, List.set_cons_succ, List.length_cons, List.length_nil, List.map_cons, List.map_nil, List.cons_append, List.nil_append, List.replicate_succ, List.replicate_zero, List.append_nil, wipeD, setAll, true_and, and_true, if_true, if_false, Bool.false_eq_true, ite_true, ite_false, Option.toList_some, Option.toList_none, reduceIte, Nat.reduceAdd, Nat.reduceSub, Nat.reduceLeDiff, Nat.reduceLT, Int.reduceAdd, Int.reduceSub, Bool.not_true, Bool.not_false, ne_eq, not_true_eq_false, not_false_eq_true, gt_iff_lt, ge_iff_le] <;> rfl
              · rw [fm_if hf5, less_kept (List.getElem?_eq_getElem hk)]
                have e11 : D.tup ((kept n' rs).map tN) = ksD (kept n' rs) := rfl
                simp only [↓wv_var, ↓wv_con, ↓wv_glo, ↓wv_bin, ↓wv_neg, ↓wv_not, ↓wv_and, ↓wv_or, ↓wv_and1, ↓wv_andc, ↓wv_or1, ↓wv_orc, ↓wv_cmp, ↓wv_chn, ↓wv_ite, ↓wv_idx, ↓wv_slc, ↓wo_none, ↓wo_some, ↓wv_tup, ↓wv_lst, ↓wv_dnew, ↓wv_bi, ↓wv_rgl, ↓wv_mt, ↓wv_isi, ↓wv_isn, ↓wv_ntn, ↓ws_nil, ↓ws_cons, ↓wv_call, ↓wv_callk, ↓wv_lc, ↓wv_gx, ↓wp_stp, ↓wtt_nil, ↓wtt_cons, ↓wi_seq, ↓wi_rng, ↓wi_rng2, ↓Wr_int, ↓Wr2_int, ↓wx_nil, ↓seq_nx, ↓seq_rt, ↓seq_bk, ↓seq_ct, ↓wx_cons, ↓wx_asg, ↓wx_asgLc, ↓wx_par, ↓wx_sset, ↓wx_aug, ↓wx_exp, ↓wx_ret, ↓wx_retn, ↓wx_ifs, ↓wx_trn, ↓wx_fr, ↓wx_brk, ↓wx_cnt, ↓wx_pas, ↓Wp_some, ↓Wp_none, ↓Wo_some, ↓Wo_none, ↓Wx_some, ↓Wx_none, ↓Wv_some, ↓Wt_true, ↓Wt_false, ↓Wt_none, ↓Wp_bd, ↓Wp_map, ↓Wp_bind, ↓Wo_map, ↓Wo_bind, ↓Wp_if, ↓Wo_if, l_addi, l_sub, l_muli, l_mod, l_fdiv, l_addt, l_addl, l_pow18, l_iadd, l_eqi, l_nei, l_lti, l_lei, l_gti, l_gei, l_eqb, l_ixt, l_ixl, l_ix0, l_set0, l_tbl, l_tint, l_ttup, l_tlst, l_tnon, l_inti, l_intb, l_abs, l_lenl, l_lent, l_min2, l_max2, l_listl, l_listt, l_tupl, l_tupt, l_sorted, l_rgl, l_rgt, l_src_t, l_src_l, l_src_r, l_isit, l_isii, l_isiib, l_isiis, l_isiit, l_isbb, l_isbt, l_newLf, l_newLt, l_newT, l_slct, l_slcl, l_slcr, l_nm, l_tp2, List.getElem?_cons_zero, List.getElem?_cons_succ, List.set_cons_zero, List.set_cons_succ, List.length_cons, List.length_nil, List.map_cons, List.map_nil, List.cons_append, List.nil_append, List.replicate_succ, List.replicate_zero, List.append_nil, wipeD, setAll, true_and, and_true, if_true, if_false, Bool.false_eq_true, ite_true, ite_false, Option.toList_some, Option.toList_none, reduceIte, Nat.reduceAdd, Nat.reduceSub, Nat.reduceLeDiff, Nat.reduceLT, Int.reduceAdd, Int.reduceSub, Bool.not_true, Bool.not_false, ne_eq, not_true_eq_false, not_false_eq_true, gt_iff_lt, ge_iff_le, kl, e11]
                refine same_wp hP8 _ _ (plk rs) (Nat.lt_of_le_of_lt (dek _) (by decide)) ?_
                simp only [↓wv_var, ↓wv_con, ↓wv_glo, ↓wv_bin, ↓wv_neg, ↓wv_not, ↓wv_and, ↓wv_or, ↓wv_and1, ↓wv_andc, ↓wv_or1, ↓wv_orc, ↓wv_cmp, ↓wv_chn, ↓wv_ite, ↓wv_idx, ↓wv_slc, ↓wo_none, ↓wo_some, ↓wv_tup, ↓wv_lst, ↓wv_dnew, ↓wv_bi, ↓wv_rgl, ↓wv_mt, ↓wv_isi, ↓wv_isn, ↓wv_ntn, ↓ws_nil, ↓ws_cons, ↓wv_call, ↓wv_callk, ↓wv_lc, ↓wv_gx, ↓wp_stp, ↓wtt_nil, ↓wtt_cons, ↓wi_seq, ↓wi_rng, ↓wi_rng2, ↓Wr_int, ↓Wr2_int, ↓wx_nil, ↓seq_nx, ↓seq_rt, ↓seq_bk, ↓seq_ct, ↓wx_cons, ↓wx_asg, ↓wx_asgLc, ↓wx_par, ↓wx_sset, ↓wx_aug, ↓wx_exp, ↓wx_ret, ↓wx_retn, ↓wx_ifs, ↓wx_trn, ↓wx_fr, ↓wx_brk, ↓wx_cnt, ↓wx_pas, ↓Wp_some, ↓Wp_none, ↓Wo_some, ↓Wo_none, ↓Wx_some, ↓Wx_none, ↓Wv_some, ↓Wt_true, ↓Wt_false, ↓Wt_none, ↓Wp_bd, ↓Wp_map, ↓Wp_bind, ↓Wo_map, ↓Wo_bind, ↓Wp_if, ↓Wo_if, l_addi, l_sub, l_muli, l_mod, l_fdiv, l_addt, l_addl, l_pow18, l_iadd, l_eqi, l_nei, l_lti, l_lei, l_gti, l_gei, l_eqb, l_ixt, l_ixl, l_ix0, l_set0, l_tbl, l_tint, l_ttup, l_tlst, l_tnon, l_inti, l_intb, l_abs, l_lenl, l_lent, l_min2, l_max2, l_listl, l_listt, l_tupl, l_tupt, l_sorted, l_rgl, l_rgt, l_src_t, l_src_l, l_src_r, l_isit, l_isii, l_isiib, l_isiis, l_isiit, l_isbb, l_isbt, l_newLf, l_newLt, l_newT, l_slct, l_slcl, l_slcr, l_nm, l_tp2, List.getElem?_cons_zero, List.getElem?_cons_succ, List.set_cons_zero, List.set_cons_succ, List.length_cons, List.length_nil, List.map_cons, List.map_nil, List.cons_append, List.nil_append, List.replicate_succ, List.replicate_zero, List.append_nil, wipeD, setAll, true_and, and_true, if_true, if_false, Bool.false_eq_true, ite_true, ite_false, Option.toList_some, Option.toList_none, reduceIte, Nat.reduceAdd, Nat.reduceSub, Nat.reduceLeDiff, Nat.reduceLT, Int.reduceAdd, Int.reduceSub, Bool.not_true, Bool.not_false, ne_eq, not_true_eq_false, not_false_eq_true, gt_iff_lt, ge_iff_le]
                exact ⟨rfl, _, _, _, _, _, _, _, _, _, _, _, _, _, _, _, _, _, hf, rfl, rfl⟩
  · obtain ⟨fl, z2, z3, z4, z5, z6, z7, z8, z9, z10, z11, z12, z13, z14, z15, z16, z17, hf, rfl, rfl⟩ := h
    simp only [↓wv_var, ↓wv_con, ↓wv_glo, ↓wv_bin, ↓wv_neg, ↓wv_not, ↓wv_and, ↓wv_or, ↓wv_and1, ↓wv_andc, ↓wv_or1, ↓wv_orc, ↓wv_cmp, ↓wv_chn, ↓wv_ite, ↓wv_idx, ↓wv_slc, ↓wo_none, ↓wo_some, ↓wv_tup, ↓wv_lst, ↓wv_dnew, ↓wv_bi, ↓wv_rgl, ↓wv_mt, ↓wv_isi, ↓wv_isn, ↓wv_ntn, ↓ws_nil, ↓ws_cons, ↓wv_call, ↓wv_callk, ↓wv_lc, ↓wv_gx, ↓wp_stp, ↓wtt_nil, ↓wtt_cons, ↓wi_seq, ↓wi_rng, ↓wi_rng2, ↓Wr_int, ↓Wr2_int, ↓wx_nil, ↓seq_nx, ↓seq_rt, ↓seq_bk, ↓seq_ct, ↓wx_cons, ↓wx_asg, ↓wx_asgLc, ↓wx_par, ↓wx_sset, ↓wx_aug, ↓wx_exp, ↓wx_ret, ↓wx_retn, ↓wx_ifs, ↓wx_trn, ↓wx_fr, ↓wx_brk, ↓wx_cnt, ↓wx_pas, ↓Wp_some, ↓Wp_none, ↓Wo_some, ↓Wo_none, ↓Wx_some, ↓Wx_none, ↓Wv_some, ↓Wt_true, ↓Wt_false, ↓Wt_none, ↓Wp_bd, ↓Wp_map, ↓Wp_bind, ↓Wo_map, ↓Wo_bind, ↓Wp_if, ↓Wo_if, l_addi, l_sub, l_muli, l_mod, l_fdiv, l_addt, l_addl, l_pow18, l_iadd, l_eqi, l_nei, l_lti, l_lei, l_gti, l_gei, l_eqb, l_ixt, l_ixl, l_ix0, l_set0, l_tbl, l_tint, l_ttup, l_tlst, l_tnon, l_inti, l_intb, l_abs, l_lenl, l_lent, l_min2, l_max2, l_listl, l_listt, l_tupl, l_tupt, l_sorted, l_rgl, l_rgt, l_src_t, l_src_l, l_src_r, l_isit, l_isii, l_isiib, l_isiis, l_isiit, l_isbb, l_isbt, l_newLf, l_newLt, l_newT, l_slct, l_slcl, l_slcr, l_nm, l_tp2, List.getElem?_cons_zero, List.getElem?_cons_succ, List.set_cons_zero, List.set_cons_succ, List.length_cons, List.length_nil, List.map_cons, List.map_nil, List.cons_append, List.nil_append, List.replicate_succ, List.replicate_zero, List.append_nil, wipeD, setAll, true_and, and_true, if_true, if_false, Bool.false_eq_true, ite_true, ite_false, Option.toList_some, Option.toList_none, reduceIte, Nat.reduceAdd, Nat.reduceSub, Nat.reduceLeDiff, Nat.reduceLT, Int.reduceAdd, Int.reduceSub, Bool.not_true, Bool.not_false, ne_eq, not_true_eq_false, not_false_eq_true, gt_iff_lt, ge_iff_le]
    exact fin_ext (s := []) rfl rfl
theorem pure_law : ∀ ns : List Int, ns.length ≤ 63 → ∀ r, (r = .rol (ns.map D.int) ∨ r = .lst (ns.map D.int)) → ∃ s', runF G Ps (calls G Ps 200) 12 [r] [] = some (.bl true, s') := fun ns hl r hr => by
  obtain ⟨d, s', e, rfl⟩ := Wp_get (law_wp hl hr)
  rw [R_def] at e
  exact ⟨s', e⟩
end Kp

namespace Kp
open PySem PySem.Spec PyProof.Rows L2
end Kp
open PySem PySem.W PyProof.Rows
set_option maxRecDepth 100000 in
set_option maxHeartbeats 0 in
theorem PySem.Challenge.cw_keptoffers_k62_closed_lots_at_eight_rule_holds : PySem.Challenge.rw_keptoffers_k62_closed_lots_at_eight_rule.Holds := by
  w_on; o_law; k_head; (case hw => w_witness2)
  k_fill
  refine Kp.walkT (l := PySem.Challenge.rw_keptoffers_k62_closed_lots_at_eight_rule) (n := 63) (k := 200 + 1) (c := Kp.runF Kp.G Kp.Ps (Kp.calls Kp.G Kp.Ps 200)) (i := 12) (gs := Kp.gxn) rfl (by decide) rfl ⟨rfl, by decide, by decide⟩ (fun w h Y => PySem.W.kIn_of Y) (by decide +kernel) ?F Kp.pure_law
  case F =>
    intro w mg fa h KX G hmg
    refine' Kp.all_mk KX G hmg ?a0 ?l0 ?c0 ?k0 ?m0 ?p0 ?n0 ?a1 ?l1 ?c1 ?k1 ?m1 ?p1 ?n1 ?a2 ?l2 ?c2 ?k2 ?a3 ?l3 ?c3 ?k3 ?a4 ?l4 ?c4 ?k4 ?a5 ?l5 ?c5 ?k5 ?a6 ?l6 ?c6 ?k6 ?a7 ?l7 ?c7 ?k7 ?a8 ?l8 ?c8 ?k8 ?a9 ?l9 ?c9 ?k9 ?a10 ?l10 ?c10 ?k10 ?a11 ?l11 ?c11 ?k11 ?a12 ?l12 ?c12 ?k12 ?z_len ?z_abs ?z_int ?z_min ?z_max ?z_sum ?z_sorted ?z_list ?z_tuple ?z_range ?z_zip ?z_enumerate ?z_isinstance ?z_bool ?z_str ?z_all ?z_any ?z_dict ?z_set 200
    (case a0 => k_is)
    (case l0 => k_is)
    (case c0 => k_is)
    (case k0 => k_is)
    (case m0 => k_is)
    (case p0 => rfl)
    (case n0 => kernel_rfl!)
    (case a1 => k_is)
    (case l1 => k_is)
    (case c1 => k_is)
    (case k1 => k_is)
    (case m1 => k_is)
    (case p1 => rfl)
    (case n1 => kernel_rfl!)
    (case a2 => k_is)
    (case l2 => k_is)
    (case c2 => k_is)
    (case k2 => k_is)
    (case a3 => k_is)
    (case l3 => k_is)
    (case c3 => k_is)
    (case k3 => k_is)
    (case a4 => k_is)
    (case l4 => k_is)
    (case c4 => k_is)
    (case k4 => k_is)
    (case a5 => k_is)
    (case l5 => k_is)
    (case c5 => k_is)
    (case k5 => k_is)
    (case a6 => k_is)
    (case l6 => k_is)
    (case c6 => k_is)
    (case k6 => k_is)
    (case a7 => k_is)
    (case l7 => k_is)
    (case c7 => k_is)
    (case k7 => k_is)
    (case a8 => k_is)
    (case l8 => k_is)
    (case c8 => k_is)
    (case k8 => k_is)
    (case a9 => k_is)
    (case l9 => k_is)
    (case c9 => k_is)
    (case k9 => k_is)
    (case a10 => k_is)
    (case l10 => k_is)
    (case c10 => k_is)
    (case k10 => k_is)
    (case a11 => k_is)
    (case l11 => k_is)
    (case c11 => k_is)
    (case k11 => k_is)
    (case a12 => k_is)
    (case l12 => k_is)
    (case c12 => k_is)
    (case k12 => k_is)
    (case z_len => k_is)
    (case z_abs => k_is)
    (case z_int => k_is)
    (case z_min => k_is)
    (case z_max => k_is)
    (case z_sum => k_is)
    (case z_sorted => k_is)
    (case z_list => k_is)
    (case z_tuple => k_is)
    (case z_range => k_is)
    (case z_zip => k_is)
    (case z_enumerate => k_is)
    (case z_isinstance => k_is)
    (case z_bool => k_is)
    (case z_str => k_is)
    (case z_all => k_is)
    (case z_any => k_is)
    (case z_dict => k_is)
    (case z_set => k_is)
#print axioms PySem.Challenge.cw_keptoffers_k62_closed_lots_at_eight_rule_holds
