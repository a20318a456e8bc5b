import PyProof.Rows.All
import Wide.All
import OpenK.AllK
import Wide.FinOn
import HandS.ForMost
import HandS.TupMul
import HandS.TupAny
import HandS.Flow
import HandS.Deep
import KE.SortData
import HandS.IsInst
import HandS.Conv
import HandS.Zip
import PySem.Challenge.RW_keptoffers_k02_conditions_looked_at
set_option Elab.async false
set_option linter.all false
set_option maxRecDepth 100000
set_option maxHeartbeats 8000000
/-! Kp, part A: plain data, a small language, its reckoner. Own work. -/
namespace Kp
open PySem

/-! ### data -/
inductive D where
  | non | bl (b : Bool) | int (i : Int) | str (x : Str)
  | tup (ds : List D) | lst (ds : List D) | ref (i : Nat) | rol (ds : List D)
  deriving Inhabited
mutual
def beqD : D → D → Bool
  | .non, .non => true
  | .bl a, .bl b => a == b
  | .int a, .int b => a == b
  | .str a, .str b => a == b
  | .tup a, .tup b => beqDs a b
  | .lst a, .lst b => beqDs a b
  | .ref a, .ref b => a == b
  | .rol a, .rol b => beqDs a b
  | _, _ => false
def beqDs : List D → List D → Bool
  | [], [] => true
  | x :: xs, y :: ys => beqD x y && beqDs xs ys
  | _, _ => false
end
mutual
theorem beqD_iff : ∀ a b : D, beqD a b = true ↔ a = b
  | .non, b => by cases b <;> simp [beqD]
  | .bl _, b => by cases b <;> simp [beqD]
  | .int _, b => by cases b <;> simp [beqD]
  | .str _, b => by cases b <;> simp [beqD]
  | .tup a, b => by cases b <;> simp [beqD, beqDs_iff a]
  | .lst a, b => by cases b <;> simp [beqD, beqDs_iff a]
  | .ref _, b => by cases b <;> simp [beqD]
  | .rol a, b => by cases b <;> simp [beqD, beqDs_iff a]
theorem beqDs_iff : ∀ a b : List D, beqDs a b = true ↔ a = b
  | [], b => by cases b <;> simp [beqDs]
  | x :: xs, b => by cases b <;> simp [beqDs, beqD_iff x, beqDs_iff xs]
end
instance instDecEqD : DecidableEq D := fun a b => decidable_of_iff _ (beqD_iff a b)

/- == of Python, of data within a heap's reach -/
mutual
def deq : D → D → Bool
  | .non, .non => true
  | .bl a, .bl b => a == b
  | .bl a, .int j => (if a then 1 else 0) == j
  | .int i, .bl b => i == (if b then 1 else 0)
  | .int a, .int b => a == b
  | .str a, .str b => a == b
  | .tup a, .tup b => deqs a b
  | .lst a, .lst b => deqs a b
  | _, _ => false
def deqs : List D → List D → Bool
  | [], [] => true
  | x :: xs, y :: ys => deq x y && deqs xs ys
  | _, _ => false
end
mutual
/-- no reference within -/
def pur : D → Bool
  | .tup ds => purs ds
  | .lst ds => purs ds
  | .ref _ => false
  | .rol _ => false
  | _ => true
def purs : List D → Bool
  | [] => true
  | d :: ds => pur d && purs ds
end
mutual
def dep : D → Nat
  | .tup ds => deps ds + 1
  | .lst ds => deps ds + 1
  | _ => 0
def deps : List D → Nat
  | [] => 0
  | d :: ds => max (dep d) (deps ds)
end
mutual
/-- all references below n -/
def low (n : Nat) : D → Bool
  | .tup ds => lows n ds
  | .lst ds => lows n ds
  | .ref i => decide (i < n)
  | .rol ds => lows n ds
  | _ => true
def lows (n : Nat) : List D → Bool
  | [] => true
  | d :: ds => low n d && lows n ds
end
mutual
/-- < of Python: ints, texts, tuples and lists of such -/
def dlt : D → D → Option Bool
  | .int a, .int b => some (decide (a < b))
  | .bl a, .bl b => some (!a && b)
  | .str a, .str b => some (decide (a.cps.toList < b.cps.toList))
  | .tup a, .tup b => dlts a b
  | .lst a, .lst b => dlts a b
  | _, _ => none
def dlts : List D → List D → Option Bool
  | [], [] => some false
  | [], _ :: _ => some true
  | _ :: _, [] => some false
  | x :: xs, y :: ys => if deq x y then dlts xs ys else dlt x y
end

mutual
def alk : D → D → Bool
  | .non, .non => true
  | .bl _, .bl _ => true
  | .int _, .int _ => true
  | .str _, .str _ => true
  | .tup a, .tup b => alks a b
  | .lst a, .lst b => alks a b
  | _, _ => false
def alks : List D → List D → Bool
  | x :: xs, y :: ys => alk x y && alks xs ys
  | [], _ => true
  | _ :: _, [] => true
end

/-- a cell: what may be written -/
inductive C where
  | lst (ds : List D)
  | dct (kvs : List (D × D))
  | ins (c : Nat) (fs : List (Str × D))
  deriving Inhabited
abbrev S := List C
abbrev Env := List (Option D)
def lim : Nat := 100000
def bd {α β : Type} (x : Option (α × S)) (f : α → S → Option (β × S)) : Option (β × S) := match x with
  | some (a, s) => f a s
  | none => none
@[simp] theorem bd_some {α β : Type} (a : α) (s : S) (f : α → S → Option (β × S)) : bd (some (a, s)) f = f a s := rfl
@[simp] theorem bd_none {α β : Type} (f : α → S → Option (β × S)) : bd none f = none := rfl

/-- a list in hand, wherever it stands -/
def lstOf (s : S) : D → Option (List D)
  | .lst ds => some ds
  | .ref i => match s[i]? with
    | some (.lst ds) => some ds
    | _ => none
  | _ => none
/-- a list or a tuple -/
def seqOf (s : S) : D → Option (List D)
  | .tup ds => some ds
  | .rol ds => some ds
  | d => lstOf s d
/-- the datum with its own list told -/
def view (s : S) : D → D
  | .ref i => match s[i]? with
    | some (.lst ds) => .lst ds
    | _ => .ref i
  | d => d
def newL (mu : Bool) (ds : List D) (s : S) : Option (D × S) :=
  if ds.length ≤ lim then (if mu then some (.ref s.length, s ++ [.lst ds]) else some (.lst ds, s)) else none
def newT (ds : List D) (s : S) : Option (D × S) := if ds.length ≤ lim then some (.tup ds, s) else none

def truD (s : S) : D → Option Bool
  | .non => some false
  | .bl b => some b
  | .int i => some (i != 0)
  | .str x => if x.length ≤ lim then some ((x.length : Int) != 0) else none
  | .tup ds => some (!ds.isEmpty)
  | .lst ds => some (!ds.isEmpty)
  | .ref i => match s[i]? with
    | some (.lst ds) => some (!ds.isEmpty)
    | _ => none
  | .rol ds => some (!ds.isEmpty)

/-! ### operators -/
inductive BOp where | add (mu : Bool) | sub | mul (mu : Bool) | mod | fdiv | pow
  deriving DecidableEq
inductive COp where | eq | ne | lt | le | gt | ge | isin | notin
  deriving DecidableEq
def smallI (i : Int) : Bool := decide (-(2 ^ 64) < i ∧ i < 2 ^ 64)
def binD (o : BOp) (x y : D) (s : S) : Option (D × S) := match o, x, y with
  | .add _, .int i, .int j => some (.int (i + j), s)
  | .add _, .str i, .str j => if i.length + j.length ≤ lim then some (.str (i ++ j), s) else none
  | .add _, .tup a, .tup b => if a.length + b.length ≤ lim then some (.tup (a ++ b), s) else none
  | .add mu, x, y => match lstOf s x, lstOf s y with
    | some a, some b => newL mu (a ++ b) s
    | _, _ => none
  | .sub, .int i, .int j => some (.int (i - j), s)
  | .mul _, .int i, .int j => if smallI i || smallI j then some (.int (i * j), s) else none
  | .mul _, .tup a, .int k => if a ≠ [] ∧ 2 ≤ k ∧ k ≤ 1000 ∧ a.length ≤ 1000 then some (.tup (List.replicate k.toNat a).flatten, s) else none
  | .mul mu, x, .int k => match lstOf s x with
    | some a => if 0 ≤ k ∧ k ≤ 1000 ∧ a.length ≤ 100 then newL mu (List.replicate k.toNat a).flatten s else none
    | none => none
  | .mod, .int i, .int j => if 0 < j then some (.int (i % j), s) else none
  | .fdiv, .int i, .int j => if 0 < j ∧ j < 1073741824 then some (.int (i / j), s) else none
  | .pow, .int i, .int j => if 0 ≤ j ∧ j ≤ 1000 ∧ smallI i then some (.int (i ^ j.toNat), s) else none
  | _, _, _ => none
/-- a op= b, of ints and texts -/
def iopD (o : BOp) (x y : D) (s : S) : Option (D × S) := match o, x, y with
  | .add _, .int i, .int j => some (.int (i + j), s)
  | .add _, .str i, .str j => if i.length + j.length ≤ lim then some (.str (i ++ j), s) else none
  | .sub, .int i, .int j => some (.int (i - j), s)
  | .mul _, .int i, .int j => if smallI i || smallI j then some (.int (i * j), s) else none
  | .mod, .int i, .int j => if 0 < j then some (.int (i % j), s) else none
  | .fdiv, .int i, .int j => if 0 < j ∧ j < 1073741824 then some (.int (i / j), s) else none
  | _, _, _ => none
/-- == as it may be asked -/
def eqD (s : S) (x y : D) : Option Bool :=
  let a := view s x
  let b := view s y
  if pur a && pur b && decide (min (dep a) (dep b) ≤ 64) then some (deq a b) else none
def inD (s : S) (x y : D) : Option Bool :=
  match y with
  | .tup ds => if pur (view s x) && purs ds && decide (dep (view s x) ≤ 60) then some (ds.any fun z => deq z (view s x)) else none
  | y => match lstOf s y with
    | some ds => if pur (view s x) && purs ds && decide (dep (view s x) ≤ 60) then some (ds.any fun z => deq z (view s x)) else none
    | none => none
def cmpD (o : COp) (x y : D) (s : S) : Option Bool := match o with
  | .eq => eqD s x y
  | .ne => (eqD s x y).map (!·)
  | .lt => if pur x && pur y && decide (dep x ≤ 60) && alk x y then dlt x y else none
  | .gt => match x, y with
    | .int i, .int j => some (decide (j < i))
    | _, _ => none
  | .le => match x, y with
    | .int i, .int j => some (decide (i ≤ j))
    | _, _ => none
  | .ge => match x, y with
    | .int i, .int j => some (decide (j ≤ i))
    | _, _ => none
  | .isin => inD s x y
  | .notin => (inD s x y).map (!·)
/-- a place from either end -/
def ixD (n : Nat) (i : Int) : Option Nat := if 0 ≤ i then (if i < n then some i.toNat else none) else if -(n : Int) ≤ i then some (i + n).toNat else none
def idxD (x y : D) (s : S) : Option D := match y with
  | .int i => match x with
    | .tup ds => (ixD ds.length i).bind fun j => ds[j]?
    | x => match lstOf s x with
      | some ds => (ixD ds.length i).bind fun j => ds[j]?
      | none => none
  | _ => none
def sIxD (n d : Nat) : Option Int → Nat
  | none => d
  | some v => if v < 0 then (v + n).toNat else min v.toNat n
def cutD (xs : List D) (lo hi : Option Int) : List D := (xs.drop (sIxD xs.length 0 lo)).take (sIxD xs.length xs.length hi - sIxD xs.length 0 lo)
def slcD (mu : Bool) (x : D) (lo hi : Option Int) (s : S) : Option (D × S) := match x with
  | .tup ds => some (.tup (cutD ds lo hi), s)
  | .rol ds => newL mu (cutD ds lo hi) s
  | x => match lstOf s x with
    | some ds => newL mu (cutD ds lo hi) s
    | none => none

/-! ### built-in functions and methods, by values -/
inductive Bi where | len | abs | int | min2 | max2 | maxl | minl | sum | sorted | list | tuple | listRg | tupRg
  deriving DecidableEq
inductive Mt where | append | pop | popAt | insert | extend | reverse | index
  deriving DecidableEq
inductive Ty where | tint | tbool | tstr | ttuple | tlist
  deriving DecidableEq
def intsOf : List D → Option (List Int)
  | [] => some []
  | .int i :: r => (intsOf r).map (i :: ·)
  | _ => none
def ltb (a b : D) : Bool := (dlt a b).getD false
def leD (a b : D) : Bool := !ltb b a
def isNT : D → Bool
  | .tup (_ :: _) => true
  | _ => false
def notT : D → Bool
  | .tup _ => false
  | .non => false
  | _ => true
/-- stable, ascending -/
def sortD (ds : List D) : Option (List D) :=
  if purs ds && decide (deps ds ≤ 60) && (ds.all fun a => ds.all (alk a)) && (ds.all isNT || ds.all notT) then some (ds.mergeSort leD) else none
def maxI : List Int → Int
  | [] => 0
  | [x] => x
  | x :: xs => max x (maxI xs)
def minI : List Int → Int
  | [] => 0
  | [x] => x
  | x :: xs => min x (minI xs)
def biD (b : Bi) (mu : Bool) (ds : List D) (s : S) : Option (D × S) := match b, ds with
  | .len, [.str x] => if x.length ≤ lim then some (.int x.length, s) else none
  | .len, [d] => (seqOf s d).map fun xs => (.int xs.length, s)
  | .abs, [.int i] => some (.int (if i < 0 then -i else i), s)
  | .int, [.int i] => some (.int i, s)
  | .int, [.bl k] => some (.int (if k then 1 else 0), s)
  | .min2, [.int i, .int j] => some (.int (if j < i then j else i), s)
  | .max2, [.int i, .int j] => some (.int (if j > i then j else i), s)
  | .maxl, [d] => ((lstOf s d).bind intsOf).bind fun ns => if ns = [] then none else some (.int (maxI ns), s)
  | .minl, [d] => ((lstOf s d).bind intsOf).bind fun ns => if ns = [] then none else some (.int (minI ns), s)
  | .sum, [d] => ((lstOf s d).bind intsOf).map fun ns => (.int ns.sum, s)
  | .list, [d] => (seqOf s d).bind fun xs => newL mu xs s
  | .tuple, [d] => (seqOf s d).bind fun xs => newT xs s
  | .sorted, [d] => ((lstOf s d).bind sortD).bind fun xs => newL mu xs s
  | .listRg, [.int n] => if -(lim : Int) ≤ n ∧ n ≤ lim then newL mu ((List.range n.toNat).map fun i => .int (i : Nat)) s else none
  | .tupRg, [.int n] => if -(lim : Int) ≤ n ∧ n ≤ lim then newT ((List.range n.toNat).map fun i => .int (i : Nat)) s else none
  | _, _ => none
def mtD (m : Mt) (o : D) (ds : List D) (s : S) : Option (D × S) := match o with
  | .ref k => match s[k]? with
    | some (.lst xs) => match m, ds with
      | .append, [d] => if xs.length < lim then some (.non, s.set k (.lst (xs ++ [d]))) else none
      | .pop, [] => match xs[xs.length - 1]? with
        | some y => some (y, s.set k (.lst xs.dropLast))
        | none => none
      | .popAt, [.int i] => match ixD xs.length i with
        | some j => match xs[j]? with
          | some y => some (y, s.set k (.lst (xs.eraseIdx j)))
          | none => none
        | none => none
      | .reverse, [] => some (.non, s.set k (.lst xs.reverse))
      | _, _ => none
    | _ => none
  | _ => none
def isiD (d : D) (t : Ty) (s : S) : Option Bool := match t, d with
  | .tint, .int _ => some true
  | .tint, .bl _ => some true
  | .tbool, .bl _ => some true
  | .tstr, .str _ => some true
  | .ttuple, .tup _ => some true
  | .tlist, .lst _ => some true
  | _, .rol _ => none
  | t, .ref i => match s[i]? with
    | some (.lst _) => some (decide (t = .tlist))
    | _ => none
  | _, _ => some false
def setD (o i v : D) (s : S) : Option S := match o, i with
  | .ref k, .int i => match s[k]? with
    | some (.lst xs) => (ixD xs.length i).map fun j => s.set k (.lst (xs.set j v))
    | _ => none
  | _, _ => none

/-! ### the language -/
inductive Tg where
  | nm (i : Nat)
  | tp (n : Nat) (ts : List Tg)
mutual
inductive E where
  | var (i : Nat)
  | con (d : D)
  | glo (i : Nat)
  | bin (o : BOp) (a b : E)
  | neg (a : E)
  | not (a : E)
  | and (as : Es)
  | or (as : Es)
  | cmp (o : COp) (a b : E)
  | chn (o1 o2 : COp) (a b c : E)
  | ite (c a b : E)
  | idx (a b : E)
  | slc (mu : Bool) (a : E) (lo hi : Eo)
  | tup (as : Es)
  | lst (mu : Bool) (as : Es)
  | call (f : Nat) (as : Es)
  | callk (f : Nat) (as : Es) (ks : Es) (nms : List Str) (perm : List Nat)
  | bi (b : Bi) (mu : Bool) (as : Es)
  | rgl (tu mu : Bool) (a : E)
  | mt (m : Mt) (o : E) (as : Es)
  | isi (a : E) (t : Ty)
  | isn (a : E)
  | ntn (a : E)
  | lc (mu : Bool) (own : List Nat) (t : Tg) (it : It) (ifs : Es) (e : E)
inductive Es where
  | nil
  | cons (e : E) (es : Es)
inductive Eo where
  | none
  | some (e : E)
inductive It where
  | seq (e : E)
  | rng (e : E)
  | rng2 (a b : E)
  | zip (a b : E)
  | enum (a : E)
end
mutual
inductive St where
  | asg (t : Tg) (e : E)
  | asgLc (i : Nat) (mu : Bool) (own : List Nat) (t : Tg) (it : It) (ifs : Es) (e : E)
  | par (is : List Nat) (as : Es)
  | sset (o i v : E)
  | aug (i : Nat) (o : BOp) (e : E)
  | exp (e : E)
  | ret (e : E)
  | retn
  | ifs (c : E) (a b : Ss)
  | whl (c : E) (b : Ss)
  | fr (t : Tg) (it : It) (b : Ss)
  | brk
  | cnt
  | pas
inductive Ss where
  | nil
  | cons (s : St) (ss : Ss)
end

abbrev CF := Nat → List D → S → Option (D × S)
inductive Fl where | nx | rt (d : D) | bk | ct
abbrev Lk := List (Nat × List D)
def lkOk (lk : Lk) (s : S) : Bool := lk.all fun p => match s[p.1]? with
  | some (.lst ds) => decide (ds = p.2)
  | _ => false
mutual
def asgT : Tg → D → Env → Option Env
  | .nm i, d, env => some (env.set i (some d))
  | .tp n ts, d, env => match d with
    | .tup ds => if ds.length = n then asgTs ts ds env else none
    | _ => none
def asgTs : List Tg → List D → Env → Option Env
  | [], [], env => some env
  | t :: ts, d :: ds, env => (asgT t d env).bind (asgTs ts ds)
  | _, _, _ => none
end
def wipeD (env : Env) : List Nat → Env
  | [] => env
  | v :: vs => (wipeD env vs).set v none
def compL (step : D → S → Option (Option D × S)) (lk : Lk) : List D → S → Option (List D × S)
  | [], s => some ([], s)
  | d :: ds, s => bd (step d s) fun o s1 => if lkOk lk s1 then bd (compL step lk ds s1) fun r s2 => some (o.toList ++ r, s2) else none
def forL (step : D → Env → S → Option (Fl × Env × S)) (lk : Lk) : List D → Env → S → Option (Fl × Env × S)
  | [], env, s => some (.nx, env, s)
  | d :: ds, env, s => match step d env s with
    | some (.nx, env', s') => if lkOk lk s' then forL step lk ds env' s' else none
    | some (.ct, env', s') => if lkOk lk s' then forL step lk ds env' s' else none
    | some (.bk, env', s') => some (.nx, env', s')
    | some (.rt v, env', s') => some (.rt v, env', s')
    | none => none
def whlL (test : Env → S → Option (Bool × S)) (body : Env → S → Option (Fl × Env × S)) : Nat → Env → S → Option (Fl × Env × S)
  | 0, _, _ => none
  | n + 1, env, s => match test env s with
    | some (true, s1) => match body env s1 with
      | some (.nx, env', s') => whlL test body n env' s'
      | some (.ct, env', s') => whlL test body n env' s'
      | some (.bk, env', s') => some (.nx, env', s')
      | some (.rt v, env', s') => some (.rt v, env', s')
      | none => none
    | some (false, s1) => some (.nx, env, s1)
    | none => none
def tru (s : S) (d : D) : Option (Bool × S) := (truD s d).map fun b => (b, s)
/-- what is walked: is it a tuple, its items, the cells that are walked -/
def srcD (s : S) : D → Option (Bool × List D × Lk)
  | .tup ds => some (true, ds, [])
  | .rol ds => some (false, ds, [])
  | .lst ds => some (false, ds, [])
  | .ref i => match s[i]? with
    | some (.lst ds) => some (false, ds, [(i, ds)])
    | _ => none
  | _ => none
def setAll (env : Env) : List Nat → List D → Env
  | i :: is, d :: ds => setAll (env.set i (some d)) is ds
  | _, _ => env
/-- the tests of a comprehension's clause -/
def permD (vs : List D) (perm : List Nat) : Option (List D) := perm.mapM fun j => vs[j]?

section
variable (G : List D)
mutual
def ev (cf : List CF) : E → Env → S → Option (D × S)
  | .var i, env, s => match env[i]? with
    | some (some d) => some (d, s)
    | _ => none
  | .con d, _, s => some (d, s)
  | .glo i, _, s => (G[i]?).map fun d => (d, s)
  | .bin o a b, env, s => bd (ev cf a env s) fun x s1 => bd (ev cf b env s1) fun y s2 => binD o x y s2
  | .neg a, env, s => bd (ev cf a env s) fun x s1 => match x with
    | .int i => some (.int (-i), s1)
    | _ => none
  | .not a, env, s => bd (ev cf a env s) fun x s1 => (truD s1 x).map fun b => (.bl (!b), s1)
  | .and as, env, s => evand cf as env s
  | .or as, env, s => evor cf as env s
  | .cmp o a b, env, s => bd (ev cf a env s) fun x s1 => bd (ev cf b env s1) fun y s2 => (cmpD o x y s2).map fun b => (.bl b, s2)
  | .chn o1 o2 a b c, env, s => bd (ev cf a env s) fun x s1 => bd (ev cf b env s1) fun y s2 => match cmpD o1 x y s2 with
    | some true => bd (ev cf c env s2) fun z s3 => (cmpD o2 y z s3).map fun b => (.bl b, s3)
    | some false => some (.bl false, s2)
    | none => none
  | .ite c a b, env, s => bd (ev cf c env s) fun x s1 => match truD s1 x with
    | some true => ev cf a env s1
    | some false => ev cf b env s1
    | none => none
  | .idx a b, env, s => bd (ev cf a env s) fun x s1 => bd (ev cf b env s1) fun y s2 => (idxD x y s2).map fun d => (d, s2)
  | .slc mu a lo hi, env, s => bd (ev cf a env s) fun x s1 => bd (evo cf lo env s1) fun l s2 => bd (evo cf hi env s2) fun h s3 => slcD mu x l h s3
  | .tup as, env, s => bd (evs cf as env s) newT
  | .lst mu as, env, s => bd (evs cf as env s) (newL mu)
  | .call f as, env, s => bd (evs cf as env s) fun vs s1 => match cf with
    | [] => none
    | c :: _ => c f vs s1
  | .callk f as ks _ perm, env, s => bd (evs cf as env s) fun vs s1 => bd (evs cf ks env s1) fun ws s2 => match cf with
    | [] => none
    | c :: _ => (permD (vs ++ ws) perm).bind fun us => c f us s2
  | .bi b mu as, env, s => bd (evs cf as env s) (biD b mu)
  | .rgl tu mu a, env, s => bd (bd (ev cf a env s) fun x s1 => some ([x], s1)) (biD (if tu then .tupRg else .listRg) mu)
  | .mt m o as, env, s => bd (ev cf o env s) fun x s1 => bd (evs cf as env s1) (mtD m x)
  | .isi a t, env, s => bd (ev cf a env s) fun x s1 => (isiD x t s1).map fun b => (.bl b, s1)
  | .isn a, env, s => bd (ev cf a env s) fun x s1 => some (.bl (decide (x = .non)), s1)
  | .ntn a, env, s => bd (ev cf a env s) fun x s1 => some (.bl (!decide (x = .non)), s1)
  | .lc mu own t it ifs e, env, s => bd (evi cf it env s) fun (ds, lk) s1 =>
      bd (compL (fun d s' => match asgT t d (wipeD env own) with
        | some env' => bd (evt cf ifs env' s') fun b s2 => if b then bd (ev cf e env' s2) fun x s3 => some (some x, s3) else some (none, s2)
        | none => none) lk ds s1) (newL mu)
def evs (cf : List CF) : Es → Env → S → Option (List D × S)
  | .nil, _, s => some ([], s)
  | .cons e es, env, s => bd (ev cf e env s) fun x s1 => bd (evs cf es env s1) fun xs s2 => some (x :: xs, s2)
def evand (cf : List CF) : Es → Env → S → Option (D × S)
  | .nil, _, _ => none
  | .cons e es, env, s => bd (ev cf e env s) fun x s1 => match es with
    | .nil => some (x, s1)
    | .cons _ _ => match truD s1 x with
      | some true => evand cf es env s1
      | some false => some (x, s1)
      | none => none
def evor (cf : List CF) : Es → Env → S → Option (D × S)
  | .nil, _, _ => none
  | .cons e es, env, s => bd (ev cf e env s) fun x s1 => match es with
    | .nil => some (x, s1)
    | .cons _ _ => match truD s1 x with
      | some true => some (x, s1)
      | some false => evor cf es env s1
      | none => none
/-- tests, all of which are to hold -/
def evt (cf : List CF) : Es → Env → S → Option (Bool × S)
  | .nil, _, s => some (true, s)
  | .cons e es, env, s => bd (ev cf e env s) fun x s1 => match truD s1 x with
    | some true => evt cf es env s1
    | some false => some (false, s1)
    | none => none
def evo (cf : List CF) : Eo → Env → S → Option (Option Int × S)
  | .none, _, s => some (none, s)
  | .some e, env, s => bd (ev cf e env s) fun x s1 => match x with
    | .int i => some (some i, s1)
    | _ => none
def evi (cf : List CF) : It → Env → S → Option ((List D × Lk) × S)
  | .seq e, env, s => bd (ev cf e env s) fun x s1 => (srcD s1 x).map fun p => ((p.2.1, p.2.2), s1)
  | .rng e, env, s => bd (ev cf e env s) fun x s1 => match x with
    | .int n => if -(2 ^ 62) ≤ n ∧ n < 2 ^ 62 then some (((List.range n.toNat).map fun i => .int (i : Nat), []), s1) else none
    | _ => none
  | .rng2 a b, env, s => bd (ev cf a env s) fun x s1 => bd (ev cf b env s1) fun y s2 => match x, y with
    | .int i, .int j => if -(2 ^ 62) ≤ i ∧ i < 2 ^ 62 ∧ -(2 ^ 62) ≤ j ∧ j < 2 ^ 62 then some (((List.range (j - i).toNat).map fun k => .int (i + (k : Nat)), []), s2) else none
    | _, _ => none
  | .zip a b, env, s => bd (ev cf a env s) fun x s1 => bd (ev cf b env s1) fun y s2 => match srcD s2 x, srcD s2 y with
    | some (t1, xs, l1), some (t2, ys, l2) => if t1 = t2 then some (((xs.zip ys).map fun p => .tup [p.1, p.2], l1 ++ l2), s2) else none
    | _, _ => none
  | .enum a, env, s => bd (ev cf a env s) fun x s1 => match srcD s1 x with
    | some (false, ds, lk) => some ((ds.zipIdx.map fun p => .tup [.int (p.2 : Nat), p.1], lk), s1)
    | _ => none
end

def wfuel : Nat := 1000000
mutual
def ex (cf : List CF) : St → Env → S → Option (Fl × Env × S)
  | .asg t e, env, s => match ev G cf e env s with
    | some (x, s1) => (asgT t x env).map fun env' => (.nx, env', s1)
    | none => none
  | .asgLc i mu own t it ifs e, env, s => match ev G cf (.lc mu own t it ifs e) env s with
    | some (x, s1) => some (.nx, env.set i (some x), s1)
    | none => none
  | .par is as, env, s => match evs G cf as env s with
    | some (ds, s1) => if ds.length = is.length then some (.nx, setAll env is ds, s1) else none
    | none => none
  | .sset o i v, env, s => match ev G cf v env s with
    | some (x, s1) => match ev G cf o env s1 with
      | some (y, s2) => match ev G cf i env s2 with
        | some (z, s3) => (setD y z x s3).map fun s4 => (.nx, env, s4)
        | none => none
      | none => none
    | none => none
  | .aug i o e, env, s => match env[i]? with
    | some (some x) => match ev G cf e env s with
      | some (y, s1) => match iopD o x y s1 with
        | some (z, s2) => some (.nx, env.set i (some z), s2)
        | none => none
      | none => none
    | _ => none
  | .exp e, env, s => match ev G cf e env s with
    | some (_, s1) => some (.nx, env, s1)
    | none => none
  | .ret e, env, s => match ev G cf e env s with
    | some (x, s1) => some (.rt x, env, s1)
    | none => none
  | .retn, env, s => some (.rt .non, env, s)
  | .ifs c a b, env, s => match ev G cf c env s with
    | some (x, s1) => match truD s1 x with
      | some true => exs cf a env s1
      | some false => exs cf b env s1
      | none => none
    | none => none
  | .whl c b, env, s => whlL (fun env s => bd (ev G cf c env s) fun x s1 => tru s1 x) (exs cf b) wfuel env s
  | .fr t it b, env, s => match evi G cf it env s with
    | some ((ds, lk), s1) => forL (fun d env s => match asgT t d env with
        | some env' => exs cf b env' s
        | none => none) lk ds env s1
    | none => none
  | .brk, env, s => some (.bk, env, s)
  | .cnt, env, s => some (.ct, env, s)
  | .pas, env, s => some (.nx, env, s)
def exs (cf : List CF) : Ss → Env → S → Option (Fl × Env × S)
  | .nil, env, s => some (.nx, env, s)
  | .cons st ss, env, s => match ex cf st env s with
    | some (.nx, env', s') => exs cf ss env' s'
    | r => r
end
end

/-! ### defs -/
structure Fn where
  ps : Nat
  nl : Nat
  body : Ss
  keep : Bool := false
def cellLow (n : Nat) : C → Bool
  | .lst ds => lows n ds
  | .dct kvs => kvs.all fun p => low n p.1 && low n p.2
  | .ins _ fs => fs.all fun p => low n p.2
/-- a call's own cells are forgotten; a list that is handed out is shut -/
def shut (n : Nat) (s' : S) (d : D) : D := match d with
  | .ref i => if n ≤ i then (match s'[i]? with
    | some (.lst ds) => .lst ds
    | _ => d) else d
  | d => d
def oldOk (s s' : S) : Prop := ∀ j, j < s.length → s'[j]? = s[j]? ∨ ∃ c, s'[j]? = some c ∧ cellLow s.length c = true
open Classical in
noncomputable def fin (keep : Bool) (s : S) (d : D) (s' : S) : Option (D × S) :=
  if keep then some (d, s')
  else if low s.length (shut s.length s' d) = true ∧ oldOk s s' then some (shut s.length s' d, s'.take s.length) else none
noncomputable def runF (G : List D) (P : List Fn) (cf : List CF) : CF := fun f args s => match P[f]? with
  | none => none
  | some i => if args.length = i.ps then (match exs G cf i.body (args.map some ++ List.replicate (i.nl - args.length) none) s with
    | some (.rt d, _, s') => fin i.keep s d s'
    | some (.nx, _, s') => fin i.keep s .non s'
    | _ => none) else none
noncomputable def calls (G : List D) (P : List Fn) : Nat → List CF
  | 0 => []
  | n + 1 => runF G P (calls G P n) :: calls G P n
theorem calls_length (G : List D) (P : List Fn) : ∀ n, (calls G P n).length = n
  | 0 => rfl
  | n + 1 => by simp [calls, calls_length G P n]
end Kp

/-! Kp, part B: how data stand in the abstract heap. Own work. -/
namespace Kp
open PySem PySem.Spec PyProof.Rows L2

/-- the cells' addresses; the addresses that others write (the lists that comprehensions fill) -/
structure Ph where
  f : Nat → Addr
  F : Addr → Prop
instance : CoeFun Ph (fun _ => Nat → Addr) := ⟨Ph.f⟩

section
variable (K : PySem.W.Frag) (φ : Ph) (n : Nat) (H : Hp)
mutual
inductive RV : V → D → Prop
  | non : RV .non .non
  | bl (b : Bool) : RV (.bl b) (.bl b)
  | int (i : Int) : RV (.int i) (.int i)
  | str (x : Str) (h : x.cps.all (· < 0x110000) = true) : RV (.str x) (.str x)
  | tup {a : Addr} {vs : List V} {ds : List D} (h : SqT K H a vs) (r : RVs vs ds) : RV (.ref a) (.tup ds)
  | lst {a : Addr} {vs : List V} {ds : List D} (h : H a = some (.lst vs)) (nc : ∀ i, i < n → φ i ≠ a) (nf : ¬ φ.F a) (r : RVs vs ds) : RV (.ref a) (.lst ds)
  | rol {a : Addr} {vs : List V} {ds : List D} (h : (∃ o, H a = some (.frz o (.lst vs))) ∨ SqL K (fun _ => none) a vs) (r : RVs vs ds) : RV (.ref a) (.rol ds)
  | ref (i : Nat) (h : i < n) : RV (.ref (φ i)) (.ref i)
inductive RVs : List V → List D → Prop
  | nil : RVs [] []
  | cons {v : V} {vs : List V} {d : D} {ds : List D} (h : RV v d) (r : RVs vs ds) : RVs (v :: vs) (d :: ds)
end
def CellR (a : Addr) : C → Prop
  | .lst ds => ∃ vs, H a = some (.lst vs) ∧ RVs K φ n H vs ds
  | _ => False
end
structure Rel (K : PySem.W.Frag) (φ : Ph) (s : S) (H : Hp) : Prop where
  inj : ∀ i j, i < s.length → j < s.length → φ i = φ j → i = j
  cell : ∀ i c, s[i]? = some c → CellR K φ s.length H (φ i) c
  fo : ∀ a, φ.F a → Mut (H a) ∧ ∀ i, i < s.length → φ i ≠ a
structure Ext (φ : Ph) (n : Nat) (H : Hp) (φ' : Ph) (n' : Nat) (H' : Hp) : Prop where
  le : n ≤ n'
  old : ∀ i, i < n → φ' i = φ i
  new : ∀ i, n ≤ i → i < n' → H (φ' i) = none
  keep : ∀ a o, H a = some o → (∀ i, i < n → φ i ≠ a) → H' a = some o
  fk : ∀ a, φ.F a → φ'.F a
  ff : ∀ a, φ'.F a → φ.F a ∨ H a = none
/-- the cells may be written -/
def CM (φ : Ph) (n : Nat) (H : Hp) : Prop := ∀ i, i < n → Mut (H (φ i))
theorem mut_some {H : Hp} {a : Addr} (h : Mut (H a)) : ∃ o, H a = some o := by
  cases e : H a with
  | none => rw [e] at h; exact h.elim
  | some o => exact ⟨o, rfl⟩

section
variable {K : PySem.W.Frag} {φ φ1 φ2 : Ph} {n n1 n2 : Nat} {H H1 H2 : Hp} {s : S} {a : Addr}
theorem Rel.cm (r : Rel K φ s H) : CM φ s.length H := fun i hi => by
  have e : s[i]? = some s[i] := List.getElem?_eq_getElem hi
  have h := r.cell i _ e
  cases hc : s[i] with
  | lst ds =>
    rw [hc] at h
    obtain ⟨vs, h, _⟩ := h
    rw [h]
    trivial
  | dct _ => rw [hc] at h; exact h.elim
  | ins _ _ => rw [hc] at h; exact h.elim
theorem RVs.length {vs : List V} {ds : List D} (r : RVs K φ n H vs ds) : vs.length = ds.length := by
  induction ds generalizing vs with
  | nil => cases r; rfl
  | cons d ds ih => cases r with
    | cons h r => rw [List.length_cons, List.length_cons, ih r]
theorem RVs.get {vs : List V} {ds : List D} (r : RVs K φ n H vs ds) : ∀ {i : Nat} {d : D}, ds[i]? = some d → ∃ v, vs[i]? = some v ∧ RV K φ n H v d := by
  induction ds generalizing vs with
  | nil => intro i d h; simp at h
  | cons d ds ih =>
    cases r with
    | cons h r =>
      intro i e he
      cases i with
      | zero => simp at he; subst he; exact ⟨_, rfl, h⟩
      | succ i => simp at he; obtain ⟨v, h1, h2⟩ := ih r he; exact ⟨v, by simpa using h1, h2⟩
theorem RVs.getV {vs : List V} {ds : List D} (r : RVs K φ n H vs ds) : ∀ {i : Nat} {v : V}, vs[i]? = some v → ∃ d, ds[i]? = some d ∧ RV K φ n H v d := by
  induction ds generalizing vs with
  | nil => cases r; intro i d h; simp at h
  | cons d ds ih =>
    cases r with
    | cons h r =>
      intro i e he
      cases i with
      | zero => simp at he; subst he; exact ⟨_, rfl, h⟩
      | succ i => simp at he; obtain ⟨v, h1, h2⟩ := ih r he; exact ⟨v, by simpa using h1, h2⟩
theorem RVs.append {vs ws : List V} {ds es : List D} (r : RVs K φ n H vs ds) (q : RVs K φ n H ws es) : RVs K φ n H (vs ++ ws) (ds ++ es) := by
  induction ds generalizing vs with
  | nil => cases r; exact q
  | cons d ds ih => cases r with
    | cons h r => exact .cons h (ih r)
theorem RVs.drop {vs : List V} {ds : List D} (r : RVs K φ n H vs ds) : ∀ k, RVs K φ n H (vs.drop k) (ds.drop k) := by
  induction ds generalizing vs with
  | nil => cases r; intro k; simpa using RVs.nil
  | cons d ds ih => cases r with
    | cons h r =>
      intro k
      cases k with
      | zero => exact .cons h r
      | succ k => simpa using ih r k
theorem RVs.take {vs : List V} {ds : List D} (r : RVs K φ n H vs ds) : ∀ k, RVs K φ n H (vs.take k) (ds.take k) := by
  induction ds generalizing vs with
  | nil => cases r; intro k; simpa using RVs.nil
  | cons d ds ih => cases r with
    | cons h r =>
      intro k
      cases k with
      | zero => exact .nil
      | succ k => simpa using RVs.cons h (ih r k)
theorem RVs.set {vs : List V} {ds : List D} (r : RVs K φ n H vs ds) {v : V} {d : D} (hd : RV K φ n H v d) : ∀ k, RVs K φ n H (vs.set k v) (ds.set k d) := by
  induction ds generalizing vs with
  | nil => cases r; intro k; exact .nil
  | cons d ds ih => cases r with
    | cons h r =>
      intro k
      cases k with
      | zero => exact .cons hd r
      | succ k => exact .cons h (ih r k)
theorem RVs.erase {vs : List V} {ds : List D} (r : RVs K φ n H vs ds) : ∀ k, RVs K φ n H (vs.eraseIdx k) (ds.eraseIdx k) := by
  induction ds generalizing vs with
  | nil => cases r; intro k; exact .nil
  | cons d ds ih => cases r with
    | cons h r =>
      intro k
      cases k with
      | zero => exact r
      | succ k => exact .cons h (ih r k)
theorem RVs.dropLast {vs : List V} {ds : List D} (r : RVs K φ n H vs ds) : RVs K φ n H vs.dropLast ds.dropLast := by
  rw [List.dropLast_eq_take, List.dropLast_eq_take, r.length]
  exact r.take _
theorem RVs.reverse {vs : List V} {ds : List D} (r : RVs K φ n H vs ds) : RVs K φ n H vs.reverse ds.reverse := by
  induction ds generalizing vs with
  | nil => cases r; exact .nil
  | cons d ds ih => cases r with
    | cons h r =>
      rw [List.reverse_cons, List.reverse_cons]
      exact (ih r).append (.cons h .nil)
theorem RVs.rep {vs : List V} {ds : List D} (r : RVs K φ n H vs ds) : ∀ k : Nat, RVs K φ n H (List.replicate k vs).flatten (List.replicate k ds).flatten
  | 0 => .nil
  | k + 1 => by
    rw [List.replicate_succ, List.replicate_succ, List.flatten_cons, List.flatten_cons]
    exact r.append (RVs.rep r k)
theorem RVs.ints : ∀ (ns : List Int), RVs K φ n H (ns.map V.int) (ns.map D.int)
  | [] => .nil
  | i :: r => .cons (.int i) (RVs.ints r)

theorem rdKeep {o : HO} (r : Rd H a o) (k : ∀ b o, H b = some o → b = a → H1 b = some o) : Rd H1 a o := by
  rcases r with r | ⟨u, r⟩
  · exact .inl (k _ _ r rfl)
  · exact .inr ⟨u, k _ _ r rfl⟩
theorem rdSome {o : HO} (r : Rd H a o) : H a ≠ none := by
  rcases r with r | ⟨u, r⟩ <;> rw [r] <;> simp
/-- a tuple is no cell -/
theorem tup_nc (cm : CM φ n H) {vs : List V} (r : Rd H a (.tup vs)) : ∀ i, i < n → φ i ≠ a := fun i hi e => by
  have h := cm i hi
  rw [e] at h
  rcases r with r | ⟨u, r⟩ <;> rw [r] at h <;> exact h
mutual
theorem RV.mono (cm : CM φ n H) (x : Ext φ n H φ1 n1 H1) : ∀ (d : D) {v : V}, RV K φ n H v d → RV K φ1 n1 H1 v d
  | .non, _, h => by cases h; exact .non
  | .bl b, _, h => by cases h; exact .bl b
  | .int i, _, h => by cases h; exact .int i
  | .str y, _, h => by cases h with
    | str _ q => exact .str y q
  | .ref i, _, h => by cases h with
    | ref _ q =>
      rw [← x.old i q]
      exact .ref i (Nat.lt_of_lt_of_le q x.le)
  | .tup ds, _, h => by cases h with
    | tup q r =>
      refine .tup ?_ (RVs.mono cm x ds r)
      rcases q with q | q
      · exact .inl (rdKeep q fun b o hb e => x.keep b o hb (by subst e; exact tup_nc cm q))
      · exact .inr q
  | .lst ds, _, h => by cases h with
    | lst q nc nf r =>
      refine .lst (x.keep _ _ q nc) (fun i hi e => ?_) (fun e => ?_) (RVs.mono cm x ds r)
      · by_cases hn : i < n
        · rw [x.old i hn] at e; exact nc i hn e
        · have h1 := x.new i (by omega) hi
          rw [e, q] at h1
          cases h1
      · rcases x.ff _ e with z | z
        · exact nf z
        · rw [q] at z; cases z
  | .rol ds, _, h => by cases h with
    | rol q r =>
      refine .rol ?_ (RVs.mono cm x ds r)
      rcases q with ⟨o, q⟩ | q
      · refine .inl ⟨o, x.keep _ _ q fun i hi e => ?_⟩
        have z := cm i hi
        rw [e, q] at z
        exact z
      · exact .inr q
theorem RVs.mono (cm : CM φ n H) (x : Ext φ n H φ1 n1 H1) : ∀ (ds : List D) {vs : List V}, RVs K φ n H vs ds → RVs K φ1 n1 H1 vs ds
  | [], _, h => by cases h; exact .nil
  | d :: ds, _, h => by cases h with
    | cons h r => exact .cons (RV.mono cm x d h) (RVs.mono cm x ds r)
end
theorem Ext.refl : Ext φ n H φ n H := ⟨Nat.le_refl _, fun _ _ => rfl, fun i h1 h2 => absurd h1 (by omega), fun _ _ h _ => h, fun _ h => h, fun _ h => .inl h⟩
theorem Ext.none_of (x : Ext φ n H φ1 n1 H1) (cm : CM φ1 n1 H1) {p : Addr} (h : H1 p = none) : H p = none := by
  cases e : H p with
  | none => rfl
  | some o =>
    by_cases hc : ∃ j, j < n ∧ φ j = p
    · obtain ⟨j, hj, ej⟩ := hc
      have z := cm j (Nat.lt_of_lt_of_le hj x.le)
      rw [x.old j hj, ej, h] at z
      exact z.elim
    · rw [x.keep _ o e fun j hj ej => hc ⟨j, hj, ej⟩] at h
      cases h
theorem Ext.trans (x : Ext φ n H φ1 n1 H1) (cm : CM φ1 n1 H1) (y : Ext φ1 n1 H1 φ2 n2 H2) : Ext φ n H φ2 n2 H2 where
  le := Nat.le_trans x.le y.le
  old := fun i hi => (y.old i (Nat.lt_of_lt_of_le hi x.le)).trans (x.old i hi)
  new := fun i h1 h2 => by
    by_cases h : i < n1
    · rw [y.old i h]; exact x.new i h1 h
    · exact x.none_of cm (y.new i (by omega) h2)
  fk := fun a h => y.fk a (x.fk a h)
  ff := fun a h => by
    rcases y.ff a h with z | z
    · exact x.ff a z
    · exact .inr (x.none_of cm z)
  keep := fun a o h hn => y.keep a o (x.keep a o h hn) fun i hi e => by
    by_cases h' : i < n
    · rw [x.old i h'] at e; exact hn i h' e
    · have q := x.new i (by omega) hi
      rw [e, h] at q
      cases q
theorem Ext.free (x : Ext φ n H φ1 n1 H1) (cm : CM φ1 n1 H1) {p : Addr} (h : H1 p = none) : H p = none := x.none_of cm h
/-- a new object that is no cell -/
theorem Ext.obj {p : Addr} {o : HO} (hp : H p = none) : Ext φ n H φ n (upd H p o) :=
  ⟨Nat.le_refl _, fun _ _ => rfl, fun i h1 h2 => absurd h1 (by omega), fun b u hb _ => by rw [upd_ne (ne_of_none hb hp)]; exact hb, fun _ h => h, fun _ h => .inl h⟩
theorem mut_new {p a : Addr} {o : HO} (hp : H p = none) (h : Mut (H a)) : Mut (upd H p o a) := by
  obtain ⟨u, e⟩ := mut_some h
  rw [upd_ne (ne_of_none e hp)]
  exact h
theorem Rel.obj (r : Rel K φ s H) {p : Addr} {o : HO} (hp : H p = none) : Rel K φ s (upd H p o) where
  inj := r.inj
  cell := fun i c e => by
    have h := r.cell i c e
    cases c with
    | lst ds =>
      obtain ⟨vs, h1, h2⟩ := h
      exact ⟨vs, by rw [upd_ne (ne_of_none h1 hp)]; exact h1, h2.mono r.cm (Ext.obj hp)⟩
    | dct _ => exact h.elim
    | ins _ _ => exact h.elim
  fo := fun a h => ⟨mut_new hp (r.fo a h).1, (r.fo a h).2⟩
/-- a cell's address by its number, one more -/
def addC (φ : Ph) (n : Nat) (p : Addr) : Ph := ⟨fun i => if i = n then p else φ i, φ.F⟩
theorem addC_ne {φ : Ph} {n i : Nat} {p : Addr} (h : ¬ i = n) : (addC φ n p) i = φ i := if_neg h
theorem addC_eq {φ : Ph} {n : Nat} {p : Addr} : (addC φ n p) n = p := if_pos rfl
theorem Ext.cell {p : Addr} {o : HO} (hp : H p = none) : Ext φ n H (addC φ n p) (n + 1) (upd H p o) where
  le := Nat.le_succ _
  old := fun i hi => addC_ne (by omega)
  new := fun i h1 h2 => by
    have e : i = n := by omega
    subst e
    rw [addC_eq]
    exact hp
  keep := fun b u hb _ => by rw [upd_ne (ne_of_none hb hp)]; exact hb
  fk := fun _ h => h
  ff := fun _ h => .inl h
theorem Rel.newC (r : Rel K φ s H) {p : Addr} {vs : List V} {ds : List D} (hp : H p = none) (hv : RVs K φ s.length H vs ds) :
    Rel K (addC φ s.length p) (s ++ [.lst ds]) (upd H p (.lst vs)) := by
  have x : Ext φ s.length H (addC φ s.length p) (s.length + 1) (upd H p (.lst vs)) := Ext.cell hp
  have nc : ∀ i, i < s.length → φ i ≠ p := fun i hi e => by
    have h := r.cm i hi
    rw [e, hp] at h
    exact h
  refine ⟨fun i j hi hj e => ?_, fun i c e => ?_, fun a h => ⟨mut_new hp (r.fo a h).1, fun i hi e => ?_⟩⟩
  · rw [List.length_append] at hi hj
    simp only [List.length_cons, List.length_nil] at hi hj
    by_cases h1 : i = s.length
    · by_cases h2 : j = s.length
      · omega
      · rw [h1, addC_eq, addC_ne h2] at e
        exact absurd e.symm (nc j (by omega))
    · by_cases h2 : j = s.length
      · rw [h2, addC_eq, addC_ne h1] at e
        exact absurd e (nc i (by omega))
      · rw [addC_ne h1, addC_ne h2] at e
        exact r.inj i j (by omega) (by omega) e
  · rw [List.length_append]
    by_cases h1 : i < s.length
    · rw [List.getElem?_append_left h1] at e
      have h := r.cell i c e
      have ei : (addC φ s.length p) i = φ i := x.old i h1
      cases c with
      | lst ds' =>
        obtain ⟨ws, q1, q2⟩ := h
        refine ⟨ws, ?_, q2.mono r.cm x⟩
        rw [ei]
        rw [upd_ne (ne_of_none q1 hp)]; exact q1
      | dct _ => exact h.elim
      | ins _ _ => exact h.elim
    · have h2 : i = s.length := by
        have := (List.getElem?_eq_some_iff.mp e).1
        rw [List.length_append] at this
        simp at this
        omega
      subst h2
      rw [List.getElem?_append_right (Nat.le_refl _)] at e
      simp at e
      subst e
      refine ⟨vs, ?_, hv.mono r.cm x⟩
      rw [addC_eq, upd_same]
  · rw [List.length_append] at hi
    simp only [List.length_cons, List.length_nil] at hi
    by_cases h1 : i = s.length
    · subst h1
      rw [addC_eq] at e
      obtain ⟨u, z⟩ := mut_some (r.fo a h).1
      rw [← e, hp] at z
      cases z
    · rw [addC_ne h1] at e
      exact (r.fo a h).2 i (by omega) e

/-! ### an address that others write -/
theorem not_tup {p a : Addr} {vs : List V} (m : Mut (H p)) (r : Rd H a (.tup vs)) : a ≠ p := fun e => by
  subst e
  rcases r with r | ⟨u, r⟩ <;> rw [r] at m <;> exact m
mutual
theorem RV.updF {p : Addr} {o : HO} (m : Mut (H p)) (hf : φ.F p) : ∀ (d : D) {v : V}, RV K φ n H v d → RV K φ n (upd H p o) v d
  | .non, _, h => by cases h; exact .non
  | .bl b, _, h => by cases h; exact .bl b
  | .int i, _, h => by cases h; exact .int i
  | .str y, _, h => by cases h with
    | str _ q => exact .str y q
  | .ref i, _, h => by cases h with
    | ref _ q => exact .ref i q
  | .tup ds, _, h => by cases h with
    | tup q r =>
      refine .tup ?_ (RVs.updF m hf ds r)
      rcases q with q | q
      · exact .inl (rdKeep q fun b o hb e => by subst e; rw [upd_ne (not_tup m q)]; exact hb)
      · exact .inr q
  | .lst ds, _, h => by cases h with
    | lst q nc nf r => exact .lst (by rw [upd_ne fun e => nf (by rw [e]; exact hf)]; exact q) nc nf (RVs.updF m hf ds r)
  | .rol ds, _, h => by cases h with
    | rol q r =>
      refine .rol ?_ (RVs.updF m hf ds r)
      rcases q with ⟨u, q⟩ | q
      · refine .inl ⟨u, ?_⟩
        rw [upd_ne fun e => ?_]
        · exact q
        · rw [← e, q] at m; exact m
      · exact .inr q
theorem RVs.updF {p : Addr} {o : HO} (m : Mut (H p)) (hf : φ.F p) : ∀ (ds : List D) {vs : List V}, RVs K φ n H vs ds → RVs K φ n (upd H p o) vs ds
  | [], _, h => by cases h; exact .nil
  | d :: ds, _, h => by cases h with
    | cons h r => exact .cons (RV.updF m hf d h) (RVs.updF m hf ds r)
end
theorem Rel.updF {p : Addr} {o : HO} (r : Rel K φ s H) (hf : φ.F p) (ho : Mut (some o)) : Rel K φ s (upd H p o) where
  inj := r.inj
  cell := fun i c e => by
    have hi := (List.getElem?_eq_some_iff.mp e).1
    have h := r.cell i c e
    cases c with
    | lst ds =>
      obtain ⟨vs, h1, h2⟩ := h
      exact ⟨vs, by rw [upd_ne ((r.fo p hf).2 i hi)]; exact h1, h2.updF (r.fo p hf).1 hf⟩
    | dct _ => exact h.elim
    | ins _ _ => exact h.elim
  fo := fun a h => by
    refine ⟨?_, (r.fo a h).2⟩
    by_cases e : a = p
    · subst e; rw [upd_same]; exact ho
    · rw [upd_ne e]; exact (r.fo a h).1
/-- fewer addresses of others -/
def lessF (φ : Ph) (F : Addr → Prop) : Ph := ⟨φ.f, F⟩
mutual
theorem RV.less {F : Addr → Prop} (hF : ∀ a, F a → φ.F a) : ∀ (d : D) {v : V}, RV K φ n H v d → RV K (lessF φ F) n H v d
  | .non, _, h => by cases h; exact .non
  | .bl b, _, h => by cases h; exact .bl b
  | .int i, _, h => by cases h; exact .int i
  | .str y, _, h => by cases h with
    | str _ q => exact .str y q
  | .ref i, _, h => by cases h with
    | ref _ q => exact RV.ref (φ := lessF φ F) i q
  | .tup ds, _, h => by cases h with
    | tup q r => exact .tup q (RVs.less hF ds r)
  | .lst ds, _, h => by cases h with
    | lst q nc nf r => exact .lst q nc (fun e => nf (hF _ e)) (RVs.less hF ds r)
  | .rol ds, _, h => by cases h with
    | rol q r => exact .rol q (RVs.less hF ds r)
theorem RVs.less {F : Addr → Prop} (hF : ∀ a, F a → φ.F a) : ∀ (ds : List D) {vs : List V}, RVs K φ n H vs ds → RVs K (lessF φ F) n H vs ds
  | [], _, h => by cases h; exact .nil
  | d :: ds, _, h => by cases h with
    | cons h r => exact .cons (RV.less hF d h) (RVs.less hF ds r)
end
theorem Rel.less {F : Addr → Prop} (r : Rel K φ s H) (hF : ∀ a, F a → φ.F a) : Rel K (lessF φ F) s H where
  inj := r.inj
  cell := fun i c e => by
    have h := r.cell i c e
    cases c with
    | lst ds =>
      obtain ⟨vs, h1, h2⟩ := h
      exact ⟨vs, h1, h2.less hF⟩
    | dct _ => exact h.elim
    | ins _ _ => exact h.elim
  fo := fun a h => r.fo a (hF a h)
end
end Kp

/-! Kp, part C: operations by values. Own work. -/
namespace Kp
open PySem PySem.Spec PyProof.Rows L2

theorem bd_inv {α β : Type} {x : Option (α × S)} {f : α → S → Option (β × S)} {p : β × S} (h : bd x f = some p) : ∃ a s1, x = some (a, s1) ∧ f a s1 = some p := by
  cases x with
  | none => cases h
  | some q => exact ⟨q.1, q.2, rfl, h⟩
theorem lim_le : lim ≤ sizeLine := by decide
theorem lim_lt {n : Nat} (h : n ≤ lim) : n ≤ sizeLine := Nat.le_trans h lim_le

def PostE (K : PySem.W.Frag) (φ : Ph) (n : Nat) (H : Hp) (d : D) (s' : S) (Q : VK) : Prop :=
  ∀ v H' φ', Ext φ n H φ' s'.length H' → Rel K φ' s' H' → RV K φ' s'.length H' v d → Q v H'

section
variable {K : PySem.W.Frag} {φ φ1 : Ph} {s s1 : S} {H H1 : Hp} {n n1 : Nat} {v : V} {d : D} {ds : List D} {Q : VK}
theorem PostE.now (r : Rel K φ s H) (h : PostE K φ s.length H d s Q) (hv : RV K φ s.length H v d) : Q v H := h v H φ Ext.refl r hv
/-- behind an extension -/
theorem PostE.ext {s' : S} (x : Ext φ n H φ1 s1.length H1) (r : Rel K φ1 s1 H1) (h : PostE K φ n H d s' Q) : PostE K φ1 s1.length H1 d s' Q :=
  fun v H' φ' x' r' hv => h v H' φ' (x.trans r.cm x') r' hv
theorem rol_sq {a : Addr} {vs : List V} (q : (∃ o, H a = some (.frz o (.lst vs))) ∨ SqL K (fun _ => none) a vs) : SqL K H a vs := by
  rcases q with ⟨o, q⟩ | q | q
  · exact .inl (.inr ⟨o, q⟩)
  · rcases q with q | ⟨o, q⟩ <;> cases q
  · exact .inr q
theorem lstOf_rel (r : Rel K φ s H) (h : RV K φ s.length H v d) (e : lstOf s d = some ds) : ∃ p vs, v = .ref p ∧ H p = some (.lst vs) ∧ RVs K φ s.length H vs ds := by
  cases h with
  | lst q _ _ rr => cases e; exact ⟨_, _, rfl, q, rr⟩
  | ref i hi =>
    unfold lstOf at e
    cases hc : s[i]? with
    | none => simp [hc] at e
    | some c =>
      have q := r.cell i c hc
      cases c with
      | lst es =>
        simp [hc] at e
        subst e
        obtain ⟨vs, q1, q2⟩ := q
        exact ⟨_, vs, rfl, q1, q2⟩
      | dct _ => exact q.elim
      | ins _ _ => exact q.elim
  | _ => cases e
theorem seqOf_rel (r : Rel K φ s H) (h : RV K φ s.length H v d) (e : seqOf s d = some ds) : ∃ p vs, v = .ref p ∧ (SqL K H p vs ∨ SqT K H p vs) ∧ RVs K φ s.length H vs ds := by
  cases h with
  | tup q rr => cases e; exact ⟨_, _, rfl, .inr q, rr⟩
  | rol q rr =>
    cases e
    exact ⟨_, _, rfl, .inl (rol_sq q), rr⟩
  | lst q nc _ rr =>
    cases e
    exact ⟨_, _, rfl, .inl (SqL.of q), rr⟩
  | ref i hi =>
    obtain ⟨p, vs, e1, e2, e3⟩ := lstOf_rel r (RV.ref i hi) (show lstOf s (.ref i) = some ds from e)
    exact ⟨p, vs, e1, .inl (SqL.of e2), e3⟩
  | _ => cases e
/-- a new list -/
theorem newL_post {mu : Bool} {vs : List V} {s' : S} (r : Rel K φ s H) (hv : RVs K φ s.length H vs ds) (e : newL mu ds s = some (d, s')) (h : PostE K φ s.length H d s' Q) :
    vs.length ≤ sizeLine ∧ ∀ p, H p = none → Q (.ref p) (upd H p (.lst vs)) := by
  unfold newL at e
  by_cases hl : ds.length ≤ lim
  · rw [if_pos hl] at e
    refine ⟨by rw [hv.length]; exact lim_lt hl, fun p hp => ?_⟩
    cases mu with
    | true =>
      simp only [if_true, Option.some.injEq, Prod.mk.injEq] at e
      obtain ⟨rfl, rfl⟩ := e
      have x : Ext φ s.length H (addC φ s.length p) (s ++ [C.lst ds]).length (upd H p (.lst vs)) := by
        rw [List.length_append]; exact Ext.cell hp
      refine h _ _ _ x (r.newC hp hv) ?_
      have e1 : (addC φ s.length p) s.length = p := addC_eq
      have q : RV K (addC φ s.length p) (s ++ [C.lst ds]).length (upd H p (.lst vs)) (.ref (addC φ s.length p s.length)) (.ref s.length) := .ref s.length (by simp)
      rw [e1] at q
      exact q
    | false =>
      simp only [Bool.false_eq_true, if_false, Option.some.injEq, Prod.mk.injEq] at e
      obtain ⟨rfl, rfl⟩ := e
      refine h _ _ φ (Ext.obj hp) (r.obj hp) (.lst upd_same (fun i hi ee => ?_) (fun z => ?_) (hv.mono r.cm (Ext.obj hp)))
      · have z := r.cm i hi
        rw [ee, hp] at z
        exact z
      · have z := (r.fo _ z).1
        rw [hp] at z
        exact z
  · rw [if_neg hl] at e
    cases e
theorem newT_post {vs : List V} {s' : S} (r : Rel K φ s H) (hv : RVs K φ s.length H vs ds) (e : newT ds s = some (d, s')) (h : PostE K φ s.length H d s' Q) :
    vs.length ≤ sizeLine ∧ ∀ p, H p = none → Q (.ref p) (upd H p (.tup vs)) := by
  unfold newT at e
  by_cases hl : ds.length ≤ lim
  · rw [if_pos hl] at e
    cases e
    exact ⟨by rw [hv.length]; exact lim_lt hl, fun p hp => h _ _ φ (Ext.obj hp) (r.obj hp) (.tup (SqT.of upd_same) (hv.mono r.cm (Ext.obj hp)))⟩
  · rw [if_neg hl] at e
    cases e
/-- a cell is written -/
theorem Rel.write (r : Rel K φ s H) {i : Nat} {vs : List V} (hi : i < s.length) (hv : RVs K φ s.length H vs ds) :
    Ext φ s.length H φ (s.set i (.lst ds)).length (upd H (φ i) (.lst vs)) ∧ Rel K φ (s.set i (.lst ds)) (upd H (φ i) (.lst vs)) := by
  have x : Ext φ s.length H φ s.length (upd H (φ i) (.lst vs)) :=
    ⟨Nat.le_refl _, fun _ _ => rfl, fun j h1 h2 => absurd h1 (by omega), fun a o h hn => by rw [upd_ne (hn i hi).symm]; exact h, fun _ h => h, fun _ h => .inl h⟩
  refine ⟨by rw [List.length_set]; exact x, fun a b ha hb => by rw [List.length_set] at ha hb; exact r.inj a b ha hb, fun j c e => ?_, fun a h => ⟨by rw [upd_ne ((r.fo a h).2 i hi).symm]; exact (r.fo a h).1, fun j hj => (r.fo a h).2 j (by rw [List.length_set] at hj; exact hj)⟩⟩
  rw [List.length_set]
  by_cases hj : j = i
  · subst hj
    rw [List.getElem?_set_self hi] at e
    cases e
    exact ⟨vs, upd_same, hv.mono r.cm x⟩
  · rw [List.getElem?_set_ne (Ne.symm hj)] at e
    have q := r.cell j c e
    cases c with
    | lst es =>
      obtain ⟨ws, q1, q2⟩ := q
      have hjl : j < s.length := (List.getElem?_eq_some_iff.mp e).1
      exact ⟨ws, by rw [upd_ne (fun z => hj (r.inj j i hjl hi z))]; exact q1, q2.mono r.cm x⟩
    | dct _ => exact q.elim
    | ins _ _ => exact q.elim
/-- truth -/
theorem tru_rel (r : Rel K φ s H) (h : RV K φ s.length H v d) {b : Bool} (e : truD s d = some b) : TruV K v H b := by
  cases h with
  | non => cases e; rfl
  | bl b => cases e; rfl
  | int i => cases e; rfl
  | str x hx =>
    unfold truD at e
    by_cases hl : x.length ≤ lim
    · simp only [hl, if_true, Option.some.injEq] at e
      subst e
      exact ⟨lim_lt hl, rfl⟩
    · simp [hl] at e
  | tup q rr =>
    cases e
    refine .inr (.inl ⟨_, q, ?_⟩)
    cases rr <;> rfl
  | lst q nc _ rr =>
    cases e
    refine .inl ⟨_, SqL.of q, ?_⟩
    cases rr <;> rfl
  | rol q rr =>
    cases e
    refine .inl ⟨_, rol_sq q, ?_⟩
    cases rr <;> rfl
  | ref i hi =>
    unfold truD at e
    cases hc : s[i]? with
    | none => simp [hc] at e
    | some c =>
      have q := r.cell i c hc
      cases c with
      | lst es =>
        simp only [hc, Option.some.injEq] at e
        subst e
        obtain ⟨vs, q1, q2⟩ := q
        refine .inl ⟨vs, SqL.of q1, ?_⟩
        cases q2 <;> rfl
      | dct _ => exact q.elim
      | ins _ _ => exact q.elim
end

/-! ### two-place operators -/
/-- an operation on two data -/
def OpS (X : Cx) (f : Value → Value → Sem Value) (g : D → D → S → Option (D × S)) : Prop :=
  ∀ (pins : List (Addr × Obj)) (sh : Shared) (σ : L2.St) (H : Hp) (x y : V) (v u : Value) (Q : VK) (φ : Ph) (s : S) (d e d' : D) (s' : S), Inv X pins σ H sh → RelV x v → RelV y u →
    Rel X.K φ s H → RV X.K φ s.length H x d → RV X.K φ s.length H y e → g d e s = some (d', s') → PostE X.K φ s.length H d' s' Q → wpAny (model X.prog X.w) X.A (f v u) (EP X pins σ Q) X.xe sh
section
variable {X : Cx}
theorem bin_lists {mu : Bool} {d e d' : D} {s s' : S} (h : (match lstOf s d, lstOf s e with
    | some a, some b => newL mu (a ++ b) s
    | _, _ => none) = some (d', s')) : ∃ a b, lstOf s d = some a ∧ lstOf s e = some b ∧ newL mu (a ++ b) s = some (d', s') := by
  cases h1 : lstOf s d with
  | none => simp [h1] at h
  | some a => cases h2 : lstOf s e with
    | none => simp [h1, h2] at h
    | some b => simp [h1, h2] at h; exact ⟨a, b, rfl, rfl, h⟩
theorem allOk_app {i j : Str} (h1 : i.cps.all (· < 0x110000) = true) (h2 : j.cps.all (· < 0x110000) = true) : (i ++ j).cps.all (· < 0x110000) = true := by
  have e : (i ++ j).cps = i.cps ++ j.cps := rfl
  rw [e, Array.all_append, h1, h2] <;> rfl
theorem os_add {mu : Bool} : OpS X (binaryOp .Add) (binD (.add mu)) := by
  intro pins sh σ H x y v u Q φ s d e d' s' I rx ry r hx hy h hq
  have lists : (match lstOf s d, lstOf s e with
    | some a, some b => newL mu (a ++ b) s
    | _, _ => none) = some (d', s') → wpAny (model X.prog X.w) X.A (binaryOp .Add v u) (EP X pins σ Q) X.xe sh := fun h => by
    obtain ⟨a, b, h1, h2, h3⟩ := bin_lists h
    obtain ⟨p, vs, rfl, q1, q2⟩ := lstOf_rel r hx h1
    obtain ⟨p', vs', rfl, q1', q2'⟩ := lstOf_rel r hy h2
    obtain ⟨z, k⟩ := newL_post r (q2.append q2') h3 hq
    exact op_cat pins sh σ H _ _ v u Q I rx ry ⟨p, p', vs, vs', rfl, rfl, q1, q1', by rw [List.length_append] at z; exact z, k⟩
  cases d with
  | int i =>
    cases e with
    | int j =>
      cases hx; cases hy; cases h
      exact op_add pins sh σ H _ _ v u Q I rx ry ⟨i, j, rfl, rfl, hq.now r (.int _)⟩
    | _ => exact lists h
  | str i =>
    cases e with
    | str j =>
      cases hx with
      | str _ o1 =>
        cases hy with
        | str _ o2 =>
          have h : (if i.length + j.length ≤ lim then some (D.str (i ++ j), s) else none) = some (d', s') := h
          by_cases hl : i.length + j.length ≤ lim
          · rw [if_pos hl] at h
            cases h
            exact op_add_str pins sh σ H _ _ v u Q I rx ry ⟨i, j, rfl, rfl, lim_lt hl, hq.now r (.str _ (allOk_app o1 o2))⟩
          · rw [if_neg hl] at h
            cases h
    | _ => exact lists h
  | tup a =>
    cases e with
    | tup b =>
      cases hx with
      | tup q1 r1 =>
        cases hy with
        | tup q2 r2 =>
          have h : (if a.length + b.length ≤ lim then some (D.tup (a ++ b), s) else none) = some (d', s') := h
          by_cases hl : a.length + b.length ≤ lim
          · rw [if_pos hl] at h
            cases h
            refine op_catA pins sh σ H _ _ v u Q I rx ry ⟨_, _, _, _, rfl, rfl, q1, q2, by rw [r1.length, r2.length]; exact lim_lt hl, fun z => ?_, fun _ z => ?_, fun _ _ p hp => ?_⟩
            · subst z
              cases r1
              exact hq.now r (.tup q2 r2)
            · subst z
              cases r2
              rw [List.append_nil] at hq
              exact hq.now r (.tup q1 r1)
            · exact hq _ _ φ (Ext.obj hp) (r.obj hp) (.tup (SqT.of upd_same) ((r1.append r2).mono r.cm (Ext.obj hp)))
          · rw [if_neg hl] at h
            cases h
    | _ => exact lists h
  | _ => exact lists h
theorem os_sub : OpS X (binaryOp .Sub) (binD .sub) := by
  intro pins sh σ H x y v u Q φ s d e d' s' I rx ry r hx hy h hq
  cases d with
  | int i =>
    cases e with
    | int j =>
      cases hx; cases hy; cases h
      exact op_sub pins sh σ H _ _ v u Q I rx ry ⟨i, j, rfl, rfl, hq.now r (.int _)⟩
    | _ => cases h
  | _ => cases h
theorem smallI_ok {i j : Int} (h : (smallI i || smallI j) = true) : CMul i j := by
  rcases Bool.or_eq_true_iff.mp h with h | h
  · exact .inl (of_decide_eq_true h)
  · exact .inr (of_decide_eq_true h)
theorem os_mul {mu : Bool} : OpS X (binaryOp .Mult) (binD (.mul mu)) := by
  intro pins sh σ H x y v u Q φ s d e d' s' I rx ry r hx hy h hq
  have lists : ∀ k, e = .int k → (match lstOf s d with
    | some a => if 0 ≤ k ∧ k ≤ 1000 ∧ a.length ≤ 100 then newL mu (List.replicate k.toNat a).flatten s else none
    | none => none) = some (d', s') → wpAny (model X.prog X.w) X.A (binaryOp .Mult v u) (EP X pins σ Q) X.xe sh := fun k ek g => by
    subst ek
    cases hy
    revert g
    cases h1 : lstOf s d with
    | none => intro g; cases g
    | some a =>
      intro g
      have h : (if 0 ≤ k ∧ k ≤ 1000 ∧ a.length ≤ 100 then newL mu (List.replicate k.toNat a).flatten s else none) = some (d', s') := g
      by_cases hl : 0 ≤ k ∧ k ≤ 1000 ∧ a.length ≤ 100
      · rw [if_pos hl] at h
        obtain ⟨p, vs, rfl, q1, q2⟩ := lstOf_rel r hx h1
        obtain ⟨z, kk⟩ := newL_post r (q2.rep k.toNat) h hq
        refine op_rep pins sh σ H _ _ v u Q I rx ry ⟨p, k, vs, rfl, rfl, q1, by omega, by omega, ?_, kk⟩
        rw [PyProof.Rows.lm_len_rep_flat, Nat.mul_comm] at z
        exact z
      · rw [if_neg hl] at h
        cases h
  cases e with
  | int k =>
    cases d with
    | int i =>
      cases hx; cases hy
      have h : (if smallI i || smallI k then some (D.int (i * k), s) else none) = some (d', s') := h
      by_cases hl : (smallI i || smallI k) = true
      · rw [if_pos hl] at h
        cases h
        exact op_mul pins sh σ H _ _ v u Q I rx ry ⟨i, k, rfl, rfl, smallI_ok hl, hq.now r (.int _)⟩
      · rw [if_neg hl] at h
        cases h
    | tup a =>
      cases hx with
      | tup q1 r1 =>
        cases hy
        have h : (if a ≠ [] ∧ 2 ≤ k ∧ k ≤ 1000 ∧ a.length ≤ 1000 then some (D.tup (List.replicate k.toNat a).flatten, s) else none) = some (d', s') := h
        by_cases hl : a ≠ [] ∧ 2 ≤ k ∧ k ≤ 1000 ∧ a.length ≤ 1000
        · rw [if_pos hl] at h
          cases h
          obtain ⟨l1, l2, l3, l4⟩ := hl
          refine op_repT pins sh σ H _ _ v u Q I rx ry ⟨_, k, _, rfl, rfl, q1, fun z => ?_, l2, l3, by rw [r1.length]; exact l4, fun p hp => ?_⟩
          · subst z
            cases r1
            exact l1 rfl
          · exact hq _ _ φ (Ext.obj hp) (r.obj hp) (.tup (SqT.of upd_same) ((r1.rep _).mono r.cm (Ext.obj hp)))
        · rw [if_neg hl] at h
          cases h
    | _ => exact lists k rfl h
  | _ => cases d <;> cases h
theorem os_mod : OpS X (binaryOp .Mod) (binD .mod) := by
  intro pins sh σ H x y v u Q φ s d e d' s' I rx ry r hx hy h hq
  cases d with
  | int i =>
    cases e with
    | int j =>
      cases hx; cases hy
      have h : (if 0 < j then some (D.int (i % j), s) else none) = some (d', s') := h
      by_cases hl : 0 < j
      · rw [if_pos hl] at h
        cases h
        exact op_mod pins sh σ H _ _ v u Q I rx ry ⟨i, j, rfl, rfl, hl, hq.now r (.int _)⟩
      · rw [if_neg hl] at h
        cases h
    | _ => cases h
  | _ => cases h
theorem os_fdiv : OpS X (binaryOp .FloorDiv) (binD .fdiv) := by
  intro pins sh σ H x y v u Q φ s d e d' s' I rx ry r hx hy h hq
  cases d with
  | int i =>
    cases e with
    | int j =>
      cases hx; cases hy
      have h : (if 0 < j ∧ j < 1073741824 then some (D.int (i / j), s) else none) = some (d', s') := h
      by_cases hl : 0 < j ∧ j < 1073741824
      · rw [if_pos hl] at h
        cases h
        exact op_fdiv pins sh σ H _ _ v u Q I rx ry ⟨i, j, rfl, rfl, hl, hq.now r (.int _)⟩
      · rw [if_neg hl] at h
        cases h
    | _ => cases h
  | _ => cases h
theorem os_pow : OpS X (binaryOp .Pow) (binD .pow) := by
  intro pins sh σ H x y v u Q φ s d e d' s' I rx ry r hx hy h hq
  cases d with
  | int i =>
    cases e with
    | int j =>
      cases hx; cases hy
      have h : (if 0 ≤ j ∧ j ≤ 1000 ∧ smallI i then some (D.int (i ^ j.toNat), s) else none) = some (d', s') := h
      by_cases hl : 0 ≤ j ∧ j ≤ 1000 ∧ smallI i
      · rw [if_pos hl] at h
        cases h
        have hs : -(2 ^ 64) < i ∧ i < 2 ^ 64 := of_decide_eq_true hl.2.2
        exact op_pow pins sh σ H _ _ v u Q I rx ry ⟨i, j, rfl, rfl, ⟨hl.1, by omega, by omega⟩, hq.now r (.int _)⟩
      · rw [if_neg hl] at h
        cases h
    | _ => cases h
  | _ => cases h
end
end Kp

/-! Kp, part D: comparisons, items, slices, built-ins by values. Own work. -/
namespace Kp
open PySem PySem.Spec PyProof.Rows L2

mutual
def toPy : D → PyData
  | .non => .none
  | .bl b => .bool b
  | .int i => .int i
  | .str x => .str x
  | .tup ds => .tuple (toPys ds)
  | .lst ds => .list (toPys ds)
  | .ref _ => .none
  | .rol _ => .none
def toPys : List D → List PyData
  | [] => []
  | d :: ds => toPy d :: toPys ds
end
mutual
theorem eqv_deq : ∀ a b : D, pur a = true → pur b = true → PyData.eqv (toPy a) (toPy b) = deq a b
  | .non, b, _, hb => by cases b <;> first | rfl | (cases hb)
  | .bl x, b, _, hb => by cases b <;> first | rfl | (cases hb)
  | .int x, b, _, hb => by cases b <;> first | rfl | (cases hb)
  | .str x, b, _, hb => by cases b <;> first | rfl | (cases hb)
  | .tup x, b, ha, hb => by
    cases b <;> first
      | (simp only [toPy, PyData.eqv, deq]; exact eqvs_deqs x _ (by simpa [pur] using ha) (by simpa [pur] using hb))
      | rfl
      | (cases hb)
  | .lst x, b, ha, hb => by
    cases b <;> first
      | (simp only [toPy, PyData.eqv, deq]; exact eqvs_deqs x _ (by simpa [pur] using ha) (by simpa [pur] using hb))
      | rfl
      | (cases hb)
  | .ref _, _, ha, _ => by cases ha
  | .rol _, _, ha, _ => by cases ha
theorem eqvs_deqs : ∀ a b : List D, purs a = true → purs b = true → PyData.eqvAll (toPys a) (toPys b) = deqs a b
  | [], b, _, _ => by cases b <;> rfl
  | x :: xs, b, ha, hb => by
    cases b with
    | nil => rfl
    | cons y ys =>
      simp only [purs, Bool.and_eq_true] at ha hb
      simp only [toPys, PyData.eqvAll, deqs, eqv_deq x y ha.1 hb.1, eqvs_deqs xs ys ha.2 hb.2]
end
mutual
theorem depth_dep : ∀ a : D, pur a = true → (toPy a).depth = dep a
  | .non, _ => rfl
  | .bl x, _ => rfl
  | .int x, _ => rfl
  | .str x, _ => rfl
  | .tup x, h => by simp only [toPy, PyData.depth, dep, depths_deps x (by simpa [pur] using h)]
  | .lst x, h => by simp only [toPy, PyData.depth, dep, depths_deps x (by simpa [pur] using h)]
  | .ref _, h => by cases h
  | .rol _, h => by cases h
theorem depths_deps : ∀ a : List D, purs a = true → PyData.depthAll (toPys a) = deps a
  | [], _ => rfl
  | x :: xs, h => by
    simp only [purs, Bool.and_eq_true] at h
    simp only [toPys, PyData.depthAll, deps, depth_dep x h.1, depths_deps xs h.2]
end
theorem toPys_any (ds : List D) (p : PyData → Bool) (q : D → Bool) (h : ∀ d ∈ ds, p (toPy d) = q d) : (toPys ds).any p = ds.any q := by
  induction ds with
  | nil => rfl
  | cons d ds ih =>
    rw [toPys, List.any_cons, List.any_cons, h d List.mem_cons_self, ih fun d hd => h d (List.mem_cons_of_mem _ hd)]
theorem purs_mem {ds : List D} (h : purs ds = true) : ∀ d ∈ ds, pur d = true := by
  induction ds with
  | nil => intro d hd; cases hd
  | cons e es ih =>
    simp only [purs, Bool.and_eq_true] at h
    intro d hd
    rcases List.mem_cons.mp hd with rfl | hd
    · exact h.1
    · exact ih h.2 d hd

mutual
theorem alk_alike : ∀ a b : D, alk a b = true → PySem.W.alike (toPy a) (toPy b) = true
  | .non, b, h => by cases b <;> first | rfl | (cases h)
  | .bl x, b, h => by cases b <;> first | rfl | (cases h)
  | .int x, b, h => by cases b <;> first | rfl | (cases h)
  | .str x, b, h => by cases b <;> first | rfl | (cases h)
  | .tup x, b, h => by
    cases b <;> first
      | (simp only [toPy, PySem.W.alike]; exact alks_alike x _ (by simpa [alk] using h))
      | (cases h)
  | .lst x, b, h => by
    cases b <;> first
      | (simp only [toPy, PySem.W.alike]; exact alks_alike x _ (by simpa [alk] using h))
      | (cases h)
  | .ref _, b, h => by cases b <;> cases h
  | .rol _, b, h => by cases b <;> cases h
theorem alks_alike : ∀ a b : List D, alks a b = true → PySem.W.alikeAll (toPys a) (toPys b) = true
  | [], b, _ => by cases b <;> rfl
  | x :: xs, b, h => by
    cases b with
    | nil => rfl
    | cons y ys =>
      simp only [alks, Bool.and_eq_true] at h
      simp only [toPys, PySem.W.alikeAll, alk_alike x y h.1, alks_alike xs ys h.2, Bool.and_self]
end
mutual
theorem dlt_data : ∀ a b : D, pur a = true → pur b = true → alk a b = true → ∀ {r : Bool}, dlt a b = some r → PySem.W.dataLt (toPy a) (toPy b) = r
  | .non, b, _, _, _, r, h => by cases b <;> cases h
  | .bl x, b, _, _, _, r, h => by
    cases b <;> first
      | (cases h; done)
      | (simp only [dlt, Option.some.injEq] at h; subst h; refine (PySem.W.dataLt_bool x _).trans ?_; cases x <;> (rename Bool => y; cases y <;> rfl))
  | .int x, b, _, _, _, r, h => by
    cases b <;> first | (cases h; done) | (simp only [dlt, Option.some.injEq] at h; subst h; exact PySem.W.dataLt_int x _)
  | .str x, b, _, _, _, r, h => by
    cases b <;> first | (cases h; done) | (simp only [dlt, Option.some.injEq] at h; subst h; exact PySem.W.dataLt_str x _)
  | .tup x, b, ha, hb, hk, r, h => by
    cases b <;> first
      | (cases h; done)
      | (simp only [toPy]; rw [PySem.W.dataLt_tuple]; exact dlts_data x _ (by simpa [pur] using ha) (by simpa [pur] using hb) (by simpa [alk] using hk) (by simpa [dlt] using h))
  | .lst x, b, ha, hb, hk, r, h => by
    cases b <;> first
      | (cases h; done)
      | (simp only [toPy]; rw [PySem.W.dataLt_list]; exact dlts_data x _ (by simpa [pur] using ha) (by simpa [pur] using hb) (by simpa [alk] using hk) (by simpa [dlt] using h))
  | .ref _, b, _, _, _, r, h => by cases b <;> cases h
  | .rol _, b, _, _, _, r, h => by cases b <;> cases h
theorem dlts_data : ∀ a b : List D, purs a = true → purs b = true → alks a b = true → ∀ {r : Bool}, dlts a b = some r → PyProof.Rows.lexLt PyProof.Rows.itemOrd (PySem.W.keyToksAll (toPys a)) (PySem.W.keyToksAll (toPys b)) = r
  | [], [], _, _, _, r, h => by cases h; decide
  | [], y :: ys, _, _, _, r, h => by
    simp only [dlts, Option.some.injEq] at h
    subst h
    simp only [toPys, PySem.W.keyToksAll]
    exact (PySem.W.lex_atom (by simp) _ _).trans (by decide)
  | x :: xs, [], _, _, _, r, h => by
    simp only [dlts, Option.some.injEq] at h
    subst h
    simp only [toPys, PySem.W.keyToksAll]
    exact (PySem.W.lex_atom (by simp) _ _).trans (by decide)
  | x :: xs, y :: ys, ha, hb, hk, r, h => by
    simp only [purs, Bool.and_eq_true] at ha hb
    simp only [alks, Bool.and_eq_true] at hk
    simp only [toPys]
    rw [PySem.W.dataLt_cons (alk_alike x y hk.1), eqv_deq x y ha.1 hb.1]
    simp only [dlts] at h
    by_cases e : deq x y = true
    · rw [if_pos e] at h ⊢
      exact dlts_data xs ys ha.2 hb.2 hk.2 h
    · rw [if_neg e] at h ⊢
      exact dlt_data x y ha.1 hb.1 hk.1 h
end

mutual
/-- alike data can be compared, None alone apart -/
theorem dlt_some : ∀ a b : D, alk a b = true → a ≠ .non → ∃ r, dlt a b = some r
  | .non, b, _, h => absurd rfl h
  | .bl x, b, h, _ => by cases b <;> first | exact ⟨_, rfl⟩ | (cases h)
  | .int x, b, h, _ => by cases b <;> first | exact ⟨_, rfl⟩ | (cases h)
  | .str x, b, h, _ => by cases b <;> first | exact ⟨_, rfl⟩ | (cases h)
  | .tup x, b, h, _ => by
    cases b <;> first
      | (simp only [dlt]; exact dlts_some x _ (by simpa [alk] using h))
      | (cases h)
  | .lst x, b, h, _ => by
    cases b <;> first
      | (simp only [dlt]; exact dlts_some x _ (by simpa [alk] using h))
      | (cases h)
  | .ref _, b, h, _ => by cases b <;> cases h
  | .rol _, b, h, _ => by cases b <;> cases h
theorem dlts_some : ∀ a b : List D, alks a b = true → ∃ r, dlts a b = some r
  | [], [], _ => ⟨_, rfl⟩
  | [], y :: ys, _ => ⟨_, rfl⟩
  | x :: xs, [], _ => ⟨_, rfl⟩
  | x :: xs, y :: ys, h => by
    simp only [alks, Bool.and_eq_true] at h
    simp only [dlts]
    by_cases e : deq x y = true
    · rw [if_pos e]
      exact dlts_some xs ys h.2
    · rw [if_neg e]
      refine dlt_some x y h.1 fun z => ?_
      subst z
      have h1 := h.1
      cases y <;> first | exact e rfl | (cases h1)
end
theorem ltb_data {a b : D} (ha : pur a = true) (hb : pur b = true) (hk : alk a b = true) : PySem.W.dataLt (toPy a) (toPy b) = ltb a b := by
  by_cases hn : a = .non
  · subst hn
    cases b <;> first | (cases hk; done) | decide
  · obtain ⟨r, e⟩ := dlt_some a b hk hn
    rw [dlt_data a b ha hb hk e]
    unfold ltb
    rw [e] <;> rfl

section
variable {K : PySem.W.Frag} {φ : Ph} {s : S} {H : Hp} {n : Nat}
mutual
theorem RV.dp : ∀ (d : D) {v : V}, RV K φ n H v d → pur d = true → Dp K H v (toPy d) ∧ (toPy d).canLay0 = true
  | .non, _, h, _ => by cases h; exact ⟨.non, rfl⟩
  | .bl b, _, h, _ => by cases h; exact ⟨.bl b, rfl⟩
  | .int i, _, h, _ => by cases h; exact ⟨.int i, rfl⟩
  | .str x, _, h, _ => by cases h with
    | str _ q => exact ⟨.str x, by simp only [toPy, PyData.canLay0]; exact q⟩
  | .tup ds, _, h, hp => by cases h with
    | tup q r =>
      obtain ⟨h1, h2⟩ := RVs.dp ds r (by simpa [pur] using hp)
      exact ⟨by simp only [toPy]; exact .tup q h1, by simp only [toPy, PyData.canLay0]; exact h2⟩
  | .lst ds, _, h, hp => by cases h with
    | lst q _ _ r =>
      obtain ⟨h1, h2⟩ := RVs.dp ds r (by simpa [pur] using hp)
      exact ⟨by simp only [toPy]; exact .lst (SqL.of q) h1, by simp only [toPy, PyData.canLay0]; exact h2⟩
  | .ref _, _, _, hp => by cases hp
  | .rol _, _, _, hp => by cases hp
theorem RVs.dp : ∀ (ds : List D) {vs : List V}, RVs K φ n H vs ds → purs ds = true → DpAll K H vs (toPys ds) ∧ PyData.canLayAll0 (toPys ds) = true
  | [], _, h, _ => by cases h; exact ⟨.nil, rfl⟩
  | d :: ds, _, h, hp => by cases h with
    | cons h r =>
      simp only [purs, Bool.and_eq_true] at hp
      obtain ⟨h1, h2⟩ := RV.dp d h hp.1
      obtain ⟨h3, h4⟩ := RVs.dp ds r hp.2
      exact ⟨by simp only [toPys]; exact .cons h1 h3, by simp only [toPys, PyData.canLayAll0, h2, h4]; rfl⟩
end
theorem view_dp {d : D} {v : V} (r : Rel K φ s H) (h : RV K φ s.length H v d) (hp : pur (view s d) = true) : Dp K H v (toPy (view s d)) ∧ (toPy (view s d)).canLay0 = true := by
  cases d with
  | ref i =>
    cases h with
    | ref _ hi =>
      cases hc : s[i]? with
      | none => simp [view, hc, pur] at hp
      | some c =>
        have q := r.cell i c hc
        cases c with
        | lst es =>
          simp only [view, hc] at hp ⊢
          obtain ⟨vs, q1, q2⟩ := q
          obtain ⟨h1, h2⟩ := RVs.dp es q2 (by simpa [pur] using hp)
          exact ⟨by simp only [toPy]; exact .lst (SqL.of q1) h1, by simp only [toPy, PyData.canLay0]; exact h2⟩
        | dct _ => exact q.elim
        | ins _ _ => exact q.elim
  | _ => exact RV.dp _ h hp
end

/-- a comparison of two data -/
def OpB (X : Cx) (f : Value → Value → Sem Value) (g : D → D → S → Option Bool) : Prop :=
  ∀ (pins : List (Addr × Obj)) (sh : Shared) (σ : L2.St) (H : Hp) (x y : V) (v u : Value) (Q : VK) (φ : Ph) (s : S) (d e : D) (b : Bool), Inv X pins σ H sh → RelV x v → RelV y u →
    Rel X.K φ s H → RV X.K φ s.length H x d → RV X.K φ s.length H y e → g d e s = some b → Q (.bl b) H → wpAny (model X.prog X.w) X.A (f v u) (EP X pins σ Q) X.xe sh
section
variable {X : Cx}
theorem eqD_inv {s : S} {d e : D} {b : Bool} (h : eqD s d e = some b) : pur (view s d) = true ∧ pur (view s e) = true ∧ min (dep (view s d)) (dep (view s e)) ≤ 64 ∧ b = deq (view s d) (view s e) := by
  unfold eqD at h
  by_cases c : (pur (view s d) && pur (view s e) && decide (min (dep (view s d)) (dep (view s e)) ≤ 64)) = true
  · simp only [c, if_true, Option.some.injEq] at h
    simp only [Bool.and_eq_true, decide_eq_true_eq] at c
    exact ⟨c.1.1, c.1.2, c.2, h.symm⟩
  · simp only [c] at h
    cases h
theorem ob_eq (hu : X.A.units + 70 < cLine) : OpB X (compareOp .Eq) (cmpD .eq) := by
  intro pins sh σ H x y v u Q φ s d e b I rx ry r hx hy h hq
  obtain ⟨p1, p2, p3, rfl⟩ := eqD_inv (show eqD s d e = some b from h)
  obtain ⟨d1, c1⟩ := view_dp r hx p1
  obtain ⟨d2, c2⟩ := view_dp r hy p2
  obtain ⟨as, r1⟩ := Dp.reads I _ x v d1 rx
  obtain ⟨bs, r2⟩ := Dp.reads I _ y u d2 ry
  refine SeqAt.compareEq_reads r1 r2 c1 c2 (by rw [depth_dep _ p1, depth_dep _ p2]; omega) ⟨.bl _, H, I, rfl, ?_⟩
  rw [eqv_deq _ _ p1 p2]
  exact hq
theorem ob_ne (hu : X.A.units + 70 < cLine) : OpB X (compareOp .NotEq) (cmpD .ne) := by
  intro pins sh σ H x y v u Q φ s d e b I rx ry r hx hy h hq
  have h : (eqD s d e).map (!·) = some b := h
  cases h0 : eqD s d e with
  | none => rw [h0] at h; cases h
  | some b0 =>
    rw [h0] at h
    cases h
    obtain ⟨p1, p2, p3, rfl⟩ := eqD_inv h0
    obtain ⟨d1, c1⟩ := view_dp r hx p1
    obtain ⟨d2, c2⟩ := view_dp r hy p2
    obtain ⟨as, r1⟩ := Dp.reads I _ x v d1 rx
    obtain ⟨bs, r2⟩ := Dp.reads I _ y u d2 ry
    refine SeqAt.compareNe_reads r1 r2 c1 c2 (by rw [depth_dep _ p1, depth_dep _ p2]; omega) ⟨.bl _, H, I, rfl, ?_⟩
    rw [eqv_deq _ _ p1 p2]
    exact hq
theorem ints_cmp {o : COp} {d e : D} {s : S} {b : Bool} (ho : o = .le ∨ o = .gt ∨ o = .ge) (h : cmpD o d e s = some b) : ∃ i j, d = .int i ∧ e = .int j := by
  rcases ho with rfl | rfl | rfl <;> (cases d <;> cases e <;> first | exact ⟨_, _, rfl, rfl⟩ | (cases h))
theorem ob_le : OpB X (compareOp .LtE) (cmpD .le) := by
  intro pins sh σ H x y v u Q φ s d e b I rx ry r hx hy h hq
  obtain ⟨i, j, rfl, rfl⟩ := ints_cmp (.inl rfl) h
  cases hx; cases hy; cases h
  exact op_le pins sh σ H _ _ v u Q I rx ry ⟨i, j, rfl, rfl, hq⟩
theorem ob_gt : OpB X (compareOp .Gt) (cmpD .gt) := by
  intro pins sh σ H x y v u Q φ s d e b I rx ry r hx hy h hq
  obtain ⟨i, j, rfl, rfl⟩ := ints_cmp (.inr (.inl rfl)) h
  cases hx; cases hy; cases h
  exact op_gt pins sh σ H _ _ v u Q I rx ry ⟨i, j, rfl, rfl, hq⟩
theorem ob_ge : OpB X (compareOp .GtE) (cmpD .ge) := by
  intro pins sh σ H x y v u Q φ s d e b I rx ry r hx hy h hq
  obtain ⟨i, j, rfl, rfl⟩ := ints_cmp (.inr (.inr rfl)) h
  cases hx; cases hy; cases h
  exact op_ge pins sh σ H _ _ v u Q I rx ry ⟨i, j, rfl, rfl, hq⟩

theorem inD_inv {s : S} {d e : D} {b : Bool} (h : inD s d e = some b) : pur (view s d) = true ∧ dep (view s d) ≤ 60 ∧ ∃ ds, (e = .tup ds ∨ lstOf s e = some ds) ∧ purs ds = true ∧ b = ds.any fun z => deq z (view s d) := by
  have key : ∀ ds, (if pur (view s d) && purs ds && decide (dep (view s d) ≤ 60) then some (ds.any fun z => deq z (view s d)) else none) = some b → pur (view s d) = true ∧ purs ds = true ∧ dep (view s d) ≤ 60 ∧ b = ds.any fun z => deq z (view s d) := fun ds g => by
    by_cases c : (pur (view s d) && purs ds && decide (dep (view s d) ≤ 60)) = true
    · rw [if_pos c] at g
      simp only [Bool.and_eq_true, decide_eq_true_eq] at c
      exact ⟨c.1.1, c.1.2, c.2, (Option.some.inj g).symm⟩
    · rw [if_neg c] at g
      cases g
  have lists : (match lstOf s e with
    | some ds => if pur (view s d) && purs ds && decide (dep (view s d) ≤ 60) then some (ds.any fun z => deq z (view s d)) else none
    | none => none) = some b → pur (view s d) = true ∧ dep (view s d) ≤ 60 ∧ ∃ ds, (e = .tup ds ∨ lstOf s e = some ds) ∧ purs ds = true ∧ b = ds.any fun z => deq z (view s d) := fun g => by
    revert g
    cases h1 : lstOf s e with
    | none => intro g; cases g
    | some ds =>
      intro g
      obtain ⟨q1, q2, q3, q4⟩ := key ds g
      exact ⟨q1, q3, ds, .inr rfl, q2, q4⟩
  cases e with
  | tup ds =>
    obtain ⟨q1, q2, q3, q4⟩ := key ds h
    exact ⟨q1, q3, ds, .inl rfl, q2, q4⟩
  | _ => exact lists h
theorem in_core (hu : X.A.units + 70 < cLine) {neg : Bool} {pins : List (Addr × Obj)} {sh : Shared} {σ : L2.St} {H : Hp} {x y : V} {v u : Value} {Q : VK} {φ : Ph} {s : S} {d e : D} {b : Bool} (I : Inv X pins σ H sh) (rx : RelV x v) (ry : RelV y u)
    (r : Rel X.K φ s H) (hx : RV X.K φ s.length H x d) (hy : RV X.K φ s.length H y e) (h : inD s d e = some b) (hq : Q (.bl (if neg then !b else b)) H) :
    wpAny (model X.prog X.w) X.A (compareOp (if neg then .NotIn else .In) v u) (EP X pins σ Q) X.xe sh := by
  obtain ⟨p1, p2, ds, he, p3, rfl⟩ := inD_inv h
  obtain ⟨d1, c1⟩ := view_dp r hx p1
  obtain ⟨as, r1⟩ := Dp.reads I _ x v d1 rx
  have any_eq : (toPys ds).any (fun z => PyData.eqv z (toPy (view s d))) = ds.any fun z => deq z (view s d) := toPys_any ds _ _ fun z hz => eqv_deq z _ (purs_mem p3 z hz) p1
  have room : X.A.units + 1 + min (PyData.depthAll (toPys ds)) (toPy (view s d)).depth < cLine := by rw [depth_dep _ p1]; omega
  rcases he with rfl | he
  · cases hy with
    | tup q rr =>
      obtain ⟨h1, h2⟩ := RVs.dp ds rr p3
      obtain ⟨bs, r2⟩ := Dp.reads I (.tuple (toPys ds)) _ u (.tup q h1) ry
      cases neg with
      | true => exact SeqAt.notIn_tuple_reads r2 r1 h2 c1 room ⟨.bl _, H, I, rfl, by rw [any_eq]; exact hq⟩
      | false => exact SeqAt.in_tuple_reads r2 r1 h2 c1 room ⟨.bl _, H, I, rfl, by rw [any_eq]; exact hq⟩
  · obtain ⟨p, vs, rfl, q1, q2⟩ := lstOf_rel r hy he
    obtain ⟨h1, h2⟩ := RVs.dp ds q2 p3
    obtain ⟨bs, r2⟩ := Dp.reads I (.list (toPys ds)) _ u (.lst (SqL.of q1) h1) ry
    cases neg with
    | true => exact SeqAt.notIn_list_reads r2 r1 h2 c1 room ⟨.bl _, H, I, rfl, by rw [any_eq]; exact hq⟩
    | false => exact SeqAt.in_list_reads r2 r1 h2 c1 room ⟨.bl _, H, I, rfl, by rw [any_eq]; exact hq⟩
theorem ob_in (hu : X.A.units + 70 < cLine) : OpB X (compareOp .In) (cmpD .isin) := by
  intro pins sh σ H x y v u Q φ s d e b I rx ry r hx hy h hq
  exact in_core (neg := false) hu I rx ry r hx hy h hq
theorem ob_notin (hu : X.A.units + 70 < cLine) : OpB X (compareOp .NotIn) (cmpD .notin) := by
  intro pins sh σ H x y v u Q φ s d e b I rx ry r hx hy h hq
  have h : (inD s d e).map (!·) = some b := h
  cases h0 : inD s d e with
  | none => rw [h0] at h; cases h
  | some b0 =>
    rw [h0] at h
    cases h
    exact in_core (neg := true) hu I rx ry r hx hy h0 hq
theorem ob_lt (hu : X.A.units + 70 < cLine) : OpB X (compareOp .Lt) (cmpD .lt) := by
  intro pins sh σ H x y v u Q φ s d e b I rx ry r hx hy h hq
  have h : (if pur d && pur e && decide (dep d ≤ 60) && alk d e then dlt d e else none) = some b := h
  by_cases c : (pur d && pur e && decide (dep d ≤ 60) && alk d e) = true
  · rw [if_pos c] at h
    simp only [Bool.and_eq_true, decide_eq_true_eq] at c
    obtain ⟨⟨⟨p1, p2⟩, p3⟩, p4⟩ := c
    obtain ⟨d1, c1⟩ := RV.dp d hx p1
    obtain ⟨d2, c2⟩ := RV.dp e hy p2
    obtain ⟨as, r1⟩ := Dp.reads I _ x v d1 rx
    obtain ⟨bs, r2⟩ := Dp.reads I _ y u d2 ry
    refine PySem.W.rcLt_alike (toPy d) (toPy e) X.A sh v u as bs r1 r2 (alk_alike d e p4) (fun z => ?_) (by rw [depth_dep _ p1, depth_dep _ p2]; omega) X.prog X.w X.xe (EP X pins σ Q) ⟨.bl _, H, I, rfl, ?_⟩
    · cases d <;> first | (cases z; done) | (cases e <;> first | (cases h; done) | (cases z; done))
    · rw [dlt_data d e p1 p2 p4 h]
      exact hq
  · rw [if_neg c] at h
    cases h
end
end Kp

/-! Kp, part E: items, slices, built-in functions and methods by values. Own work. -/
namespace Kp
open PySem PySem.Spec PyProof.Rows L2

section
variable {X : Cx}
theorem atI_of {K : PySem.W.Frag} {φ : Ph} {n : Nat} {H : Hp} {vs : List V} {ds : List D} (r : RVs K φ n H vs ds) {i : Int} {d : D} (h : (ixD ds.length i).bind (fun j => ds[j]?) = some d) : ∃ v, atI vs i = some v ∧ RV K φ n H v d := by
  cases e : ixD ds.length i with
  | none => rw [e] at h; cases h
  | some j =>
    rw [e] at h
    obtain ⟨v, h1, h2⟩ := r.get (show ds[j]? = some d from h)
    refine ⟨v, ?_, h2⟩
    have e' : ixN vs.length i = some j := by rw [r.length]; exact e
    unfold atI
    rw [e']
    exact h1
/-- a[i] -/
theorem ix_ok {value slice : Expr} {pins : List (Addr × Obj)} {sh : Shared} {σ : L2.St} {H : Hp} {x y : V} {v u : Value} {Q : VK} {φ : Ph} {s : S} {d e f : D} (I : Inv X pins σ H sh) (rx : RelV x v) (ry : RelV y u)
    (r : Rel X.K φ s H) (hx : RV X.K φ s.length H x d) (hy : RV X.K φ s.length H y e) (h : idxD d e s = some f) (hq : ∀ z, RV X.K φ s.length H z f → Q z H)
    (hs : subscripted slice false v u = operate [v, u] (getItem v u)) : wpAny (model X.prog X.w) X.A (subscriptTail value slice v u) (EP X pins σ Q) X.xe sh := by
  cases e with
  | int i =>
    cases hy
    have lists : (match lstOf s d with
      | some ds => (ixD ds.length i).bind fun j => ds[j]?
      | none => none) = some f → wpAny (model X.prog X.w) X.A (subscriptTail value slice v u) (EP X pins σ Q) X.xe sh := fun g => by
      revert g
      cases h1 : lstOf s d with
      | none => intro g; cases g
      | some ds =>
        intro g
        obtain ⟨p, vs, rfl, q1, q2⟩ := lstOf_rel r hx h1
        obtain ⟨z, a1, a2⟩ := atI_of q2 g
        exact ix_list value slice pins sh σ H _ _ v u Q I rx ry ⟨p, vs, i, z, rfl, rfl, SqL.of q1, a1, hq z a2⟩ hs
    cases d with
    | tup ds =>
      cases hx with
      | tup q1 q2 =>
        obtain ⟨z, a1, a2⟩ := atI_of q2 (show (ixD ds.length i).bind (fun j => ds[j]?) = some f from h)
        exact ix_tup value slice pins sh σ H _ _ v u Q I rx ry ⟨_, _, i, z, rfl, rfl, q1, a1, hq z a2⟩ hs
    | _ => exact lists h
  | _ => cases h
theorem sIxD_eq (n d : Nat) (o : Option Int) : sIxD n d o = HT.sIx n d o := by cases o <;> rfl
theorem cut_rel {K : PySem.W.Frag} {φ : Ph} {n : Nat} {H : Hp} {vs : List V} {ds : List D} (r : RVs K φ n H vs ds) (lo hi : Option Int) : RVs K φ n H (cutV vs lo hi) (cutD ds lo hi) := by
  unfold cutV cutD
  rw [sIxD_eq, sIxD_eq, r.length]
  exact (r.drop _).take _
theorem cut_whole {ds : List D} {lo hi : Option Int} (h : HT.sIx ds.length 0 lo = 0 ∧ HT.sIx ds.length ds.length hi = ds.length) : cutD ds lo hi = ds := by
  unfold cutD
  rw [sIxD_eq, sIxD_eq, h.1, h.2, List.drop_zero, Nat.sub_zero, List.take_length]
/-- a[lo:hi] by values -/
def rSl (K : PySem.W.Frag) (mu : Bool) : V → Option Int → Option Int → Hp → VK → Prop := fun x lo hi H Q => ∃ φ s d f s', Rel K φ s H ∧ RV K φ s.length H x d ∧ slcD mu d lo hi s = some (f, s') ∧ PostE K φ s.length H f s' Q
theorem sl_ok {mu : Bool} : SlR X (rSl X.K mu) := by
  intro pins sh σ H x v vl vu lo hi sl Q I rx hs pl pu h
  obtain ⟨φ, s, d, f, s', r, hx, h, hq⟩ := h
  have lists : (match lstOf s d with
    | some ds => newL mu (cutD ds lo hi) s
    | none => none) = some (f, s') → ∃ T id, typeLookup (.type T) "__getitem__" = pure (some (.builtin id)) ∧ sh.TypeIs v T ∧ wpAny (model X.prog X.w) X.A (getItem v (.ref sl)) (EP X pins σ Q) X.xe sh := fun g => by
    revert g
    cases h1 : lstOf s d with
    | none => intro g; cases g
    | some ds =>
      intro g
      obtain ⟨p, vs, rfl, q1, q2⟩ := lstOf_rel r hx h1
      exact sl_list pins sh σ H _ v vl vu lo hi sl Q I rx hs pl pu ⟨p, vs, rfl, SqL.of q1, (newL_post r (cut_rel q2 lo hi) g hq).2⟩
  cases d with
  | tup ds =>
    cases hx with
    | @tup p vs _ q1 q2 =>
      have h : some (D.tup (cutD ds lo hi), s) = some (f, s') := h
      cases h
      refine sl_tupA pins sh σ H _ v vl vu lo hi sl Q I rx hs pl pu ⟨p, vs, rfl, q1, fun w => ?_, fun _ p' hp => ?_⟩
      · rw [q2.length] at w
        rw [cut_whole w] at hq
        exact hq.now r (.tup q1 q2)
      · exact hq _ _ φ (Ext.obj hp) (r.obj hp) (.tup (SqT.of upd_same) ((cut_rel q2 lo hi).mono r.cm (Ext.obj hp)))
  | rol ds =>
    cases hx with
    | rol q1 q2 => exact sl_list pins sh σ H _ v vl vu lo hi sl Q I rx hs pl pu ⟨_, _, rfl, rol_sq q1, (newL_post r (cut_rel q2 lo hi) (show newL mu (cutD ds lo hi) s = some (f, s') from h) hq).2⟩
  | _ => exact lists h

/-! ### calls of built-ins -/
def OpC (X : Cx) (f : Value) (g : List D → S → Option (D × S)) : Prop :=
  ∀ (pins : List (Addr × Obj)) (sh : Shared) (σ : L2.St) (H : Hp) (xs : List V) (us : List Value) (Q : VK) (φ : Ph) (s : S) (ds : List D) (d' : D) (s' : S), Inv X pins σ H sh → Vals xs us →
    Rel X.K φ s H → RVs X.K φ s.length H xs ds → g ds s = some (d', s') → PostE X.K φ s.length H d' s' Q → wpAny (model X.prog X.w) X.A (call f us) (EP X pins σ Q) X.xe sh
theorem rvs1 {K : PySem.W.Frag} {φ : Ph} {n : Nat} {H : Hp} {xs : List V} {d : D} (r : RVs K φ n H xs [d]) : ∃ x, xs = [x] ∧ RV K φ n H x d := by
  cases r with
  | cons h r => cases r; exact ⟨_, rfl, h⟩
theorem rvs2 {K : PySem.W.Frag} {φ : Ph} {n : Nat} {H : Hp} {xs : List V} {d e : D} (r : RVs K φ n H xs [d, e]) : ∃ x y, xs = [x, y] ∧ RV K φ n H x d ∧ RV K φ n H y e := by
  cases r with
  | cons h r => cases r with
    | cons h2 r => cases r; exact ⟨_, _, rfl, h, h2⟩
theorem one_arg {b : Bi} {mu : Bool} {ds : List D} {s s' : S} {d' : D} (hb : b = .len ∨ b = .abs ∨ b = .int ∨ b = .maxl ∨ b = .minl ∨ b = .sum ∨ b = .list ∨ b = .tuple ∨ b = .sorted ∨ b = .listRg ∨ b = .tupRg) (h : biD b mu ds s = some (d', s')) : ∃ d, ds = [d] := by
  match ds with
  | [d] => exact ⟨d, rfl⟩
  | [] => rcases hb with rfl | rfl | rfl | rfl | rfl | rfl | rfl | rfl | rfl | rfl | rfl <;> cases h
  | a :: b :: c => rcases hb with rfl | rfl | rfl | rfl | rfl | rfl | rfl | rfl | rfl | rfl | rfl <;> (cases a <;> cases h)
theorem oc_len {mu : Bool} : OpC X (.builtin "len") (biD .len mu) := by
  intro pins sh σ H xs us Q φ s ds d' s' I rv r hxs h hq
  obtain ⟨d, rfl⟩ := one_arg (.inl rfl) h
  obtain ⟨x, rfl, hx⟩ := rvs1 hxs
  have seqs : (seqOf s d).map (fun xs => (D.int xs.length, s)) = some (d', s') → wpAny (model X.prog X.w) X.A (call (.builtin "len") us) (EP X pins σ Q) X.xe sh := fun g => by
    cases h1 : seqOf s d with
    | none => rw [h1] at g; cases g
    | some es =>
      rw [h1] at g
      cases g
      obtain ⟨p, vs, rfl, q1, q2⟩ := seqOf_rel r hx h1
      exact call_len_seq pins sh σ H _ us Q I rv ⟨p, vs, rfl, q1, by rw [q2.length]; exact hq.now r (.int _)⟩
  cases d with
  | str z =>
    cases hx
    have h : (if z.length ≤ lim then some (D.int z.length, s) else none) = some (d', s') := h
    by_cases hl : z.length ≤ lim
    · rw [if_pos hl] at h
      cases h
      exact call_len_str pins sh σ H _ us Q I rv ⟨z, rfl, lim_lt hl, hq.now r (.int _)⟩
    · rw [if_neg hl] at h
      cases h
  | _ => exact seqs h
theorem oc_abs {mu : Bool} : OpC X (.builtin "abs") (biD .abs mu) := by
  intro pins sh σ H xs us Q φ s ds d' s' I rv r hxs h hq
  obtain ⟨d, rfl⟩ := one_arg (.inr (.inl rfl)) h
  obtain ⟨x, rfl, hx⟩ := rvs1 hxs
  cases d with
  | int i => cases hx; cases h; exact call_abs pins sh σ H _ us Q I rv ⟨i, rfl, hq.now r (.int _)⟩
  | _ => cases h
theorem oc_int {mu : Bool} : OpC X (.type "int") (biD .int mu) := by
  intro pins sh σ H xs us Q φ s ds d' s' I rv r hxs h hq
  obtain ⟨d, rfl⟩ := one_arg (.inr (.inr (.inl rfl))) h
  obtain ⟨x, rfl, hx⟩ := rvs1 hxs
  cases d with
  | int i => cases hx; cases h; exact call_int1 pins sh σ H _ us Q I rv (.inl ⟨i, rfl, hq.now r (.int _)⟩)
  | bl i => cases hx; cases h; exact call_int1 pins sh σ H _ us Q I rv (.inr ⟨i, rfl, hq.now r (.int _)⟩)
  | _ => cases h
theorem two_ints {b : Bi} {mu : Bool} {ds : List D} {s s' : S} {d' : D} (hb : b = .min2 ∨ b = .max2) (h : biD b mu ds s = some (d', s')) : ∃ i j, ds = [.int i, .int j] := by
  match ds with
  | [.int i, .int j] => exact ⟨i, j, rfl⟩
  | [] => rcases hb with rfl | rfl <;> cases h
  | [a] => rcases hb with rfl | rfl <;> (cases a <;> cases h)
  | a :: b :: c :: e => rcases hb with rfl | rfl <;> (cases a <;> cases b <;> cases h)
  | [.non, b] => rcases hb with rfl | rfl <;> (cases b <;> cases h)
  | [.bl _, b] => rcases hb with rfl | rfl <;> (cases b <;> cases h)
  | [.str _, b] => rcases hb with rfl | rfl <;> (cases b <;> cases h)
  | [.tup _, b] => rcases hb with rfl | rfl <;> (cases b <;> cases h)
  | [.lst _, b] => rcases hb with rfl | rfl <;> (cases b <;> cases h)
  | [.ref _, b] => rcases hb with rfl | rfl <;> (cases b <;> cases h)
  | [.rol _, b] => rcases hb with rfl | rfl <;> (cases b <;> cases h)
  | [.int _, .non] => rcases hb with rfl | rfl <;> cases h
  | [.int _, .bl _] => rcases hb with rfl | rfl <;> cases h
  | [.int _, .str _] => rcases hb with rfl | rfl <;> cases h
  | [.int _, .tup _] => rcases hb with rfl | rfl <;> cases h
  | [.int _, .lst _] => rcases hb with rfl | rfl <;> cases h
  | [.int _, .ref _] => rcases hb with rfl | rfl <;> cases h
  | [.int _, .rol _] => rcases hb with rfl | rfl <;> cases h
theorem oc_min2 {mu : Bool} (hc : X.calm = true) : OpC X (.builtin "min") (biD .min2 mu) := by
  intro pins sh σ H xs us Q φ s ds d' s' I rv r hxs h hq
  obtain ⟨i, j, rfl⟩ := two_ints (.inl rfl) h
  obtain ⟨x, y, rfl, hx, hy⟩ := rvs2 hxs
  cases hx; cases hy; cases h
  exact call_min2 hc pins sh σ H _ us Q I rv ⟨i, j, rfl, hq.now r (.int _)⟩
theorem oc_max2 {mu : Bool} (hc : X.calm = true) : OpC X (.builtin "max") (biD .max2 mu) := by
  intro pins sh σ H xs us Q φ s ds d' s' I rv r hxs h hq
  obtain ⟨i, j, rfl⟩ := two_ints (.inr rfl) h
  obtain ⟨x, y, rfl, hx, hy⟩ := rvs2 hxs
  cases hx; cases hy; cases h
  exact call_max2 hc pins sh σ H _ us Q I rv ⟨i, j, rfl, hq.now r (.int _)⟩
theorem intsOf_map : ∀ {ds : List D} {ns : List Int}, intsOf ds = some ns → ds = ns.map D.int
  | [], ns, h => by cases h; rfl
  | .int i :: r, ns, h => by
    unfold intsOf at h
    cases e : intsOf r with
    | none => rw [e] at h; cases h
    | some ms => rw [e] at h; cases h; rw [intsOf_map e] <;> rfl
  | .non :: r, ns, h => by cases h
  | .bl _ :: r, ns, h => by cases h
  | .str _ :: r, ns, h => by cases h
  | .tup _ :: r, ns, h => by cases h
  | .lst _ :: r, ns, h => by cases h
  | .ref _ :: r, ns, h => by cases h
  | .rol _ :: r, ns, h => by cases h
theorem rvs_ints {K : PySem.W.Frag} {φ : Ph} {n : Nat} {H : Hp} : ∀ {ns : List Int} {vs : List V}, RVs K φ n H vs (ns.map D.int) → vs = ns.map V.int
  | [], _, r => by cases r; rfl
  | i :: ns, _, r => by cases r with
    | cons h r => cases h; rw [rvs_ints r]; rfl
theorem ints_lst {φ : Ph} {s : S} {H : Hp} {x : V} {d : D} {ns : List Int} (r : Rel X.K φ s H) (hx : RV X.K φ s.length H x d) (h : (lstOf s d).bind intsOf = some ns) : ∃ p, x = .ref p ∧ SqL X.K H p (ns.map V.int) := by
  cases h1 : lstOf s d with
  | none => rw [h1] at h; cases h
  | some es =>
    rw [h1] at h
    obtain ⟨p, vs, rfl, q1, q2⟩ := lstOf_rel r hx h1
    have h : intsOf es = some ns := h
    rw [intsOf_map h] at q2
    rw [rvs_ints q2] at q1
    exact ⟨p, rfl, SqL.of q1⟩
theorem oc_sum {mu : Bool} (hc : X.calm = true) : OpC X (.builtin "sum") (biD .sum mu) := by
  intro pins sh σ H xs us Q φ s ds d' s' I rv r hxs h hq
  obtain ⟨d, rfl⟩ := one_arg (by simp) h
  obtain ⟨x, rfl, hx⟩ := rvs1 hxs
  have h : ((lstOf s d).bind intsOf).map (fun ns => (D.int ns.sum, s)) = some (d', s') := h
  cases h1 : (lstOf s d).bind intsOf with
  | none => rw [h1] at h; cases h
  | some ns =>
    rw [h1] at h
    cases h
    obtain ⟨p, rfl, q⟩ := ints_lst r hx h1
    exact cr_sum hc pins sh σ H _ us Q I rv ⟨p, ns, rfl, q, hq.now r (.int _)⟩
theorem maxI_mem : ∀ {ns : List Int}, ns ≠ [] → maxI ns ∈ ns ∧ ∀ y ∈ ns, y ≤ maxI ns
  | [], h => absurd rfl h
  | [x], _ => ⟨by simp [maxI], fun y hy => by simp at hy; subst hy; simp [maxI]⟩
  | x :: y :: r, _ => by
    obtain ⟨h1, h2⟩ := maxI_mem (ns := y :: r) (by simp)
    have e : maxI (x :: y :: r) = max x (maxI (y :: r)) := rfl
    rw [e]
    refine ⟨?_, fun z hz => ?_⟩
    · by_cases c : x ≤ maxI (y :: r)
      · rw [Int.max_eq_right c]; exact List.mem_cons_of_mem _ h1
      · rw [Int.max_eq_left (by omega)]; exact List.mem_cons_self
    · rcases List.mem_cons.mp hz with rfl | hz
      · omega
      · have := h2 z hz
        omega
theorem minI_mem : ∀ {ns : List Int}, ns ≠ [] → minI ns ∈ ns ∧ ∀ y ∈ ns, minI ns ≤ y
  | [], h => absurd rfl h
  | [x], _ => ⟨by simp [minI], fun y hy => by simp at hy; subst hy; simp [minI]⟩
  | x :: y :: r, _ => by
    obtain ⟨h1, h2⟩ := minI_mem (ns := y :: r) (by simp)
    have e : minI (x :: y :: r) = min x (minI (y :: r)) := rfl
    rw [e]
    refine ⟨?_, fun z hz => ?_⟩
    · by_cases c : x ≤ minI (y :: r)
      · rw [Int.min_eq_left c]; exact List.mem_cons_self
      · rw [Int.min_eq_right (by omega)]; exact List.mem_cons_of_mem _ h1
    · rcases List.mem_cons.mp hz with rfl | hz
      · omega
      · have := h2 z hz
        omega
theorem oc_maxl {mu : Bool} (hc : X.calm = true) : OpC X (.builtin "max") (biD .maxl mu) := by
  intro pins sh σ H xs us Q φ s ds d' s' I rv r hxs h hq
  obtain ⟨d, rfl⟩ := one_arg (by simp) h
  obtain ⟨x, rfl, hx⟩ := rvs1 hxs
  have h : ((lstOf s d).bind intsOf).bind (fun ns => if ns = [] then none else some (D.int (maxI ns), s)) = some (d', s') := h
  cases h1 : (lstOf s d).bind intsOf with
  | none => rw [h1] at h; cases h
  | some ns =>
    rw [h1] at h
    have h : (if ns = [] then none else some (D.int (maxI ns), s)) = some (d', s') := h
    by_cases hn : ns = []
    · rw [if_pos hn] at h; cases h
    · rw [if_neg hn] at h
      cases h
      obtain ⟨p, rfl, q⟩ := ints_lst r hx h1
      obtain ⟨m1, m2⟩ := maxI_mem hn
      refine cr_max hc pins sh σ H _ us Q I rv ⟨p, ns, rfl, q, List.length_pos_iff.mpr hn, fun m hm hall => ?_⟩
      have e : m = maxI ns := Int.le_antisymm (m2 m hm) (hall _ m1)
      rw [e]
      exact hq.now r (.int _)
theorem oc_minl {mu : Bool} (hc : X.calm = true) : OpC X (.builtin "min") (biD .minl mu) := by
  intro pins sh σ H xs us Q φ s ds d' s' I rv r hxs h hq
  obtain ⟨d, rfl⟩ := one_arg (by simp) h
  obtain ⟨x, rfl, hx⟩ := rvs1 hxs
  have h : ((lstOf s d).bind intsOf).bind (fun ns => if ns = [] then none else some (D.int (minI ns), s)) = some (d', s') := h
  cases h1 : (lstOf s d).bind intsOf with
  | none => rw [h1] at h; cases h
  | some ns =>
    rw [h1] at h
    have h : (if ns = [] then none else some (D.int (minI ns), s)) = some (d', s') := h
    by_cases hn : ns = []
    · rw [if_pos hn] at h; cases h
    · rw [if_neg hn] at h
      cases h
      obtain ⟨p, rfl, q⟩ := ints_lst r hx h1
      obtain ⟨m1, m2⟩ := minI_mem hn
      refine cr_min hc pins sh σ H _ us Q I rv ⟨p, ns, rfl, q, List.length_pos_iff.mpr hn, fun m hm hall => ?_⟩
      have e : m = minI ns := Int.le_antisymm (hall _ m1) (m2 m hm)
      rw [e]
      exact hq.now r (.int _)
theorem oc_list {mu : Bool} : OpC X (.type "list") (biD .list mu) := by
  intro pins sh σ H xs us Q φ s ds d' s' I rv r hxs h hq
  obtain ⟨d, rfl⟩ := one_arg (by simp) h
  obtain ⟨x, rfl, hx⟩ := rvs1 hxs
  have h : (seqOf s d).bind (fun xs => newL mu xs s) = some (d', s') := h
  cases h1 : seqOf s d with
  | none => rw [h1] at h; cases h
  | some es =>
    rw [h1] at h
    obtain ⟨p, vs, rfl, q1, q2⟩ := seqOf_rel r hx h1
    exact call_list_of pins sh σ H _ us Q I rv ⟨p, vs, rfl, q1, (newL_post r q2 h hq).2⟩
theorem oc_tuple {mu : Bool} : OpC X (.type "tuple") (biD .tuple mu) := by
  intro pins sh σ H xs us Q φ s ds d' s' I rv r hxs h hq
  obtain ⟨d, rfl⟩ := one_arg (by simp) h
  obtain ⟨x, rfl, hx⟩ := rvs1 hxs
  have h : (seqOf s d).bind (fun xs => newT xs s) = some (d', s') := h
  have lists : ∀ p vs es, seqOf s d = some es → x = .ref p → SqL X.K H p vs → RVs X.K φ s.length H vs es → wpAny (model X.prog X.w) X.A (call (.type "tuple") us) (EP X pins σ Q) X.xe sh := fun p vs es h1 ep q1 q2 => by
    rw [h1] at h
    subst ep
    exact call_tuple_of pins sh σ H _ us Q I rv ⟨p, vs, rfl, .inl ⟨q1, (newT_post r q2 h hq).2⟩⟩
  cases hx with
  | tup q1 q2 =>
    have h : newT _ s = some (d', s') := h
    unfold newT at h
    split at h
    · cases h
      exact call_tuple_of pins sh σ H _ us Q I rv ⟨_, _, rfl, .inr ⟨q1, hq.now r (.tup q1 q2)⟩⟩
    · cases h
  | lst q1 nc _ q2 => exact lists _ _ _ rfl rfl (SqL.of q1) q2
  | rol q1 q2 => exact lists _ _ _ rfl rfl (rol_sq q1) q2
  | ref i hi =>
    cases h1 : lstOf s (.ref i) with
    | none =>
      have h1' : seqOf s (.ref i) = none := h1
      rw [h1'] at h
      cases h
    | some es =>
      obtain ⟨p, vs, e1, e2, e3⟩ := lstOf_rel r (RV.ref i hi) h1
      exact lists p vs es h1 e1 (SqL.of e2) e3
  | _ => cases h
end
end Kp

/-! Kp, part F: sorted, methods, isinstance, stores by values. Own work. -/
namespace Kp
open PySem PySem.Spec PyProof.Rows L2

section
variable {X : Cx}
theorem each_of {K : PySem.W.Frag} {φ : Ph} {n : Nat} {H : Hp} : ∀ {ds : List D} {vs : List V} {us : List Value}, RVs K φ n H vs ds → Vals vs us → PySem.W.EachIs (fun u d => ∃ v, RelV v u ∧ RV K φ n H v d) us ds
  | [], _, _, r, q => by cases r; cases q; exact .nil
  | d :: ds, _, _, r, q => by
    cases r with
    | cons h r => cases q with
      | cons h2 q => exact .cons ⟨_, h2, h⟩ (each_of r q)
theorem of_each {K : PySem.W.Frag} {φ : Ph} {n : Nat} {H : Hp} : ∀ {ds : List D} {us : List Value}, PySem.W.EachIs (fun u d => ∃ v, RelV v u ∧ RV K φ n H v d) us ds → ∃ vs, RVs K φ n H vs ds ∧ Vals vs us
  | [], _, e => by cases e; exact ⟨[], .nil, .nil⟩
  | d :: ds, _, e => by
    cases e with
    | cons h e =>
      obtain ⟨v, h1, h2⟩ := h
      obtain ⟨vs, h3, h4⟩ := of_each e
      exact ⟨v :: vs, .cons h2 h3, .cons h1 h4⟩
theorem each_reads {φ : Ph} {n : Nat} {pins : List (Addr × Obj)} {sh : Shared} {σ : L2.St} {H : Hp} (I : Inv X pins σ H sh) : ∀ {ds : List D} {us : List Value}, purs ds = true → PySem.W.EachIs (fun u d => ∃ v, RelV v u ∧ RV X.K φ n H v d) us ds →
    PySem.W.EachIs (fun u d => ∃ as, Reads sh.heap u (toPy d) as) us ds
  | [], _, _, e => by cases e; exact .nil
  | d :: ds, _, hp, e => by
    simp only [purs, Bool.and_eq_true] at hp
    cases e with
    | cons h e =>
      obtain ⟨v, h1, h2⟩ := h
      exact .cons (Dp.reads I _ v _ (RV.dp d h2 hp.1).1 h1) (each_reads I hp.2 e)
theorem sort_rule {β : Type} (a b : β) (k : β → PyData) : PySem.W.dataLe false k a b = !PySem.W.dataLt (k b) (k a) := rfl
theorem deps_mem {ds : List D} : ∀ {d : D}, d ∈ ds → dep d ≤ deps ds := by
  induction ds with
  | nil => intro d h; cases h
  | cons e es ih =>
    intro d h
    show dep d ≤ max (dep e) (deps es)
    rcases List.mem_cons.mp h with rfl | h
    · exact Nat.le_max_left _ _
    · exact Nat.le_trans (ih h) (Nat.le_max_right _ _)
theorem oc_sorted {mu : Bool} (hu : X.A.units + 70 < cLine) : OpC X (.builtin "sorted") (biD .sorted mu) := by
  intro pins sh σ H xs us Q φ s ds d' s' I rv r hxs h hq
  obtain ⟨d, rfl⟩ := one_arg (by simp) h
  obtain ⟨x, rfl, hx⟩ := rvs1 hxs
  have h : ((lstOf s d).bind sortD).bind (fun xs => newL mu xs s) = some (d', s') := h
  cases h1 : lstOf s d with
  | none => rw [h1] at h; cases h
  | some es =>
    rw [h1] at h
    have h : (sortD es).bind (fun xs => newL mu xs s) = some (d', s') := h
    unfold sortD at h
    split at h
    · rename_i c
      simp only [Bool.and_eq_true, decide_eq_true_eq] at c
      obtain ⟨⟨⟨c1, c2⟩, c3⟩, c4⟩ := c
      have h : newL mu (es.mergeSort leD) s = some (d', s') := h
      obtain ⟨p, vs, rfl, q1, q2⟩ := lstOf_rel r hx h1
      obtain ⟨its, rv', pl, hz⟩ := I.list (SqL.of q1)
      have e0 := each_of q2 rv'
      obtain ⟨u, rfl, ru⟩ := vals1 rv
      cases ru
      have alk_all : ∀ a ∈ es, ∀ b ∈ es, alk a b = true := fun a ha b hb => List.all_eq_true.mp (List.all_eq_true.mp c3 a ha) b hb
      have hal : PySem.W.AllAlike (es.map toPy) := fun z hz z' hz' => by
        obtain ⟨a, ha, rfl⟩ := List.mem_map.mp hz
        obtain ⟨b, hb, rfl⟩ := List.mem_map.mp hz'
        exact alk_alike a b (alk_all a ha b hb)
      have hsk : PySem.W.Sortable (es.map toPy) := by
        rcases Bool.or_eq_true_iff.mp c4 with c4 | c4
        · refine .inl fun z hz => ?_
          obtain ⟨a, ha, rfl⟩ := List.mem_map.mp hz
          have q := List.all_eq_true.mp c4 a ha
          cases a with
          | tup l => cases l with
            | nil => cases q
            | cons y l => exact ⟨_, _, rfl⟩
          | _ => cases q
        · refine .inr fun z hz => ?_
          obtain ⟨a, ha, rfl⟩ := List.mem_map.mp hz
          have q := List.all_eq_true.mp c4 a ha
          cases a with
          | non => cases q
          | tup _ => cases q
          | ref _ => exact absurd (purs_mem c1 _ ha) (by simp [pur])
          | rol _ => exact absurd (purs_mem c1 _ ha) (by simp [pur])
          | _ => exact ⟨by simp [toPy], fun l => by simp [toPy]⟩
      have le_eq : ∀ a ∈ es, ∀ b ∈ es, PySem.W.dataLe false toPy a b = leD a b := fun a ha b hb => by
        rw [sort_rule, ltb_data (purs_mem c1 b hb) (purs_mem c1 a ha) (alk_all b hb a ha)]
        rfl
      have esz : es.length ≤ sizeLine := by rw [← q2.length]; exact hz
      refine PySem.W.sorted_data (enc := toPy) pl.isList e0 (each_reads I c1 e0) hal hsk esz (fun b hb => ?_) fun out hol ho => ?_
      · rw [depth_dep b (purs_mem c1 b hb)]
        have := deps_mem hb
        omega
      · rw [PySem.W.sort_congr le_eq] at ho
        obtain ⟨ws, w1, w2⟩ := of_each ho
        obtain ⟨z1, z2⟩ := newL_post r w1 h hq
        obtain ⟨ep, he'⟩ := PyProof.Rows.sortedAll_at sh.heap its (List.toArray out)
        exact ⟨.ref _, upd H (sh.heap.objs.size + 1) (.lst ws), I.laid (t' := sh.toks) (fun _ _ => PyProof.Rows.sortedAll_old) (Nat.le_succ _) ⟨z1, out, ep, w2, he'⟩, rfl, z2 _ (I.hok.fresh (Nat.le_succ _))⟩
    · cases h

/-! ### methods of lists -/
def OpM (X : Cx) (id : String) (g : D → List D → S → Option (D × S)) : Prop :=
  ∀ (pins : List (Addr × Obj)) (sh : Shared) (σ : L2.St) (H : Hp) (x : V) (xs : List V) (v : Value) (us : List Value) (Q : VK) (φ : Ph) (s : S) (d : D) (ds : List D) (d' : D) (s' : S), Inv X pins σ H sh → RelV x v → Vals xs us →
    Rel X.K φ s H → RV X.K φ s.length H x d → RVs X.K φ s.length H xs ds → g d ds s = some (d', s') → PostE X.K φ s.length H d' s' Q → wpAny (model X.prog X.w) X.A (call (.builtin id) (v :: us)) (EP X pins σ Q) X.xe sh
theorem mt_cell {m : Mt} {d d' : D} {ds : List D} {s s' : S} (h : mtD m d ds s = some (d', s')) : ∃ k xs, d = .ref k ∧ s[k]? = some (.lst xs) := by
  cases d with
  | ref k =>
    unfold mtD at h
    cases e : s[k]? with
    | none => simp [e] at h
    | some c => cases c with
      | lst xs => exact ⟨k, xs, rfl, e⟩
      | dct _ => simp [e] at h
      | ins _ _ => simp [e] at h
  | _ => cases h
theorem cell_at {φ : Ph} {s : S} {H : Hp} {k : Nat} {xs : List D} (r : Rel X.K φ s H) (e : s[k]? = some (.lst xs)) : k < s.length ∧ ∃ vs, H (φ k) = some (.lst vs) ∧ RVs X.K φ s.length H vs xs :=
  ⟨(List.getElem?_eq_some_iff.mp e).1, r.cell k _ e⟩
theorem PostE.write {φ : Ph} {s : S} {H : Hp} {k : Nat} {ys : List D} {ws : List V} {d : D} {v : V} {Q : VK} (r : Rel X.K φ s H) (hk : k < s.length) (hw : RVs X.K φ s.length H ws ys) (h : PostE X.K φ s.length H d (s.set k (.lst ys)) Q) (hv : RV X.K φ s.length H v d) : Q v (upd H (φ k) (.lst ws)) := by
  obtain ⟨x, r'⟩ := r.write hk hw
  exact h _ _ φ x r' (hv.mono r.cm x)
theorem om_append : OpM X "list.append" (mtD .append) := by
  intro pins sh σ H x xs v us Q φ s d ds d' s' I rx rv r hx hxs h hq
  obtain ⟨k, zs, rfl, e⟩ := mt_cell h
  cases hx with
  | ref _ hk =>
    obtain ⟨_, vs, q1, q2⟩ := cell_at r e
    match ds, hxs with
    | [], _ => simp [mtD, e] at h
    | a :: b :: c, _ => simp [mtD, e] at h
    | [a], hxs =>
      obtain ⟨y, rfl, hy⟩ := rvs1 hxs
      simp only [mtD, e] at h
      by_cases hl : zs.length < lim
      · rw [if_pos hl] at h
        cases h
        refine mt_append pins sh σ H _ _ v us Q I rx rv ⟨φ k, vs, y, rfl, rfl, q1, ?_, ?_⟩
        · rw [q2.length]
          exact Nat.lt_of_lt_of_le hl lim_le
        · exact hq.write r hk (q2.append (.cons hy .nil)) .non
      · rw [if_neg hl] at h
        cases h
theorem om_pop : OpM X "list.pop" (mtD .pop) := by
  intro pins sh σ H x xs v us Q φ s d ds d' s' I rx rv r hx hxs h hq
  obtain ⟨k, zs, rfl, e⟩ := mt_cell h
  cases hx with
  | ref _ hk =>
    obtain ⟨_, vs, q1, q2⟩ := cell_at r e
    match ds, hxs with
    | a :: c, _ => simp [mtD, e] at h
    | [], hxs =>
      cases hxs
      simp only [mtD, e] at h
      cases e2 : zs[zs.length - 1]? with
      | none => rw [e2] at h; cases h
      | some y =>
        rw [e2] at h
        cases h
        obtain ⟨w, w1, w2⟩ := q2.get e2
        exact mt_pop pins sh σ H _ _ v us Q I rx rv ⟨φ k, vs, w, rfl, rfl, q1, by rw [q2.length]; exact w1, hq.write r hk q2.dropLast w2⟩
theorem om_popAt : OpM X "list.pop" (mtD .popAt) := by
  intro pins sh σ H x xs v us Q φ s d ds d' s' I rx rv r hx hxs h hq
  obtain ⟨k, zs, rfl, e⟩ := mt_cell h
  cases hx with
  | ref _ hk =>
    obtain ⟨_, vs, q1, q2⟩ := cell_at r e
    have go : ∀ i, ds = [.int i] → wpAny (model X.prog X.w) X.A (call (.builtin "list.pop") (v :: us)) (EP X pins σ Q) X.xe sh := fun i ed => by
      subst ed
      obtain ⟨y, rfl, hy⟩ := rvs1 hxs
      cases hy
      simp only [mtD, e] at h
      cases e2 : ixD zs.length i with
      | none => rw [e2] at h; cases h
      | some j =>
        rw [e2] at h
        have h : (match zs[j]? with
          | some y => some (y, s.set k (.lst (zs.eraseIdx j)))
          | none => none) = some (d', s') := h
        cases e3 : zs[j]? with
        | none => rw [e3] at h; cases h
        | some y =>
          rw [e3] at h
          cases h
          obtain ⟨w, w1, w2⟩ := q2.get e3
          have hn : ixN vs.length i = some j := by rw [q2.length]; exact e2
          obtain ⟨n1, n2, n3, n4⟩ := ixN_seq hn
          obtain ⟨hz, _⟩ := I.lstM q1
          have hs : sizeLine = 16777216 := sizeLine_eq
          exact mt_popAt pins sh σ H _ _ v us Q I rx rv ⟨φ k, vs, i, j, w, rfl, rfl, q1, by omega, by omega, n1, w1, hq.write r hk (q2.erase j) w2⟩
    match ds with
    | [.int i] => exact go i rfl
    | [] => simp [mtD, e] at h
    | [.non] => simp [mtD, e] at h
    | [.bl _] => simp [mtD, e] at h
    | [.str _] => simp [mtD, e] at h
    | [.tup _] => simp [mtD, e] at h
    | [.lst _] => simp [mtD, e] at h
    | [.ref _] => simp [mtD, e] at h
    | [.rol _] => simp [mtD, e] at h
    | a :: b :: c => simp [mtD, e] at h
theorem om_reverse : OpM X "list.reverse" (mtD .reverse) := by
  intro pins sh σ H x xs v us Q φ s d ds d' s' I rx rv r hx hxs h hq
  obtain ⟨k, zs, rfl, e⟩ := mt_cell h
  cases hx with
  | ref _ hk =>
    obtain ⟨_, vs, q1, q2⟩ := cell_at r e
    match ds, hxs with
    | a :: c, _ => simp [mtD, e] at h
    | [], hxs =>
      cases hxs
      simp only [mtD, e] at h
      cases h
      exact mt_reverse pins sh σ H _ _ v us Q I rx rv ⟨φ k, vs, rfl, rfl, q1, hq.write r hk q2.reverse .non⟩

/-! ### isinstance -/
def tyName : Ty → String
  | .tint => "int" | .tbool => "bool" | .tstr => "str" | .ttuple => "tuple" | .tlist => "list"
def kindOfD (s : S) : D → Option String
  | .non => some "NoneType" | .bl _ => some "bool" | .int _ => some "int" | .str _ => some "str" | .tup _ => some "tuple" | .lst _ => some "list"
  | .ref i => match s[i]? with
    | some (.lst _) => some "list"
    | _ => none
  | .rol _ => none
theorem isi_kind {d : D} {t : Ty} {s : S} {b : Bool} (h : isiD d t s = some b) : ∃ a, kindOfD s d = some a ∧ kitB a (tyName t) = some b := by
  cases d with
  | non => cases t <;> (cases h; exact ⟨_, rfl, by decide +kernel⟩)
  | bl _ => cases t <;> (cases h; exact ⟨_, rfl, by decide +kernel⟩)
  | int _ => cases t <;> (cases h; exact ⟨_, rfl, by decide +kernel⟩)
  | str _ => cases t <;> (cases h; exact ⟨_, rfl, by decide +kernel⟩)
  | tup _ => cases t <;> (cases h; exact ⟨_, rfl, by decide +kernel⟩)
  | lst _ => cases t <;> (cases h; exact ⟨_, rfl, by decide +kernel⟩)
  | rol _ => cases t <;> cases h
  | ref i =>
    have h : (match s[i]? with
      | some (.lst _) => some (decide (t = .tlist))
      | _ => none) = some b := by cases t <;> exact h
    cases e : s[i]? with
    | none => rw [e] at h; cases h
    | some c =>
      rw [e] at h
      cases c with
      | lst ds =>
        refine ⟨"list", by simp only [kindOfD, e], ?_⟩
        cases t <;> (cases h; decide +kernel)
      | dct _ => cases h
      | ins _ _ => cases h
theorem ty_of {φ : Ph} {s : S} {H : Hp} {d : D} {x : V} {a : String} (r : Rel X.K φ s H) (hx : RV X.K φ s.length H x d) (h : kindOfD s d = some a) : TyX X.K H x (.type a) := by
  cases hx with
  | non => cases h; exact .base .non
  | bl b => cases h; exact .base (.bl b)
  | int b => cases h; exact .base (.int b)
  | str b _ => cases h; exact .base (.str b)
  | tup q _ =>
    cases h
    rcases q with (q | ⟨o, q⟩) | ⟨o, its, n, q, c, _⟩
    · exact .base (.tup q)
    · exact .fTuple q
    · exact .kTuple q c
  | lst q _ _ _ => cases h; exact .base (.lst q)
  | rol _ _ => cases h
  | ref i hi =>
    unfold kindOfD at h
    cases e : s[i]? with
    | none => simp [e] at h
    | some c =>
      have q := r.cell i c e
      cases c with
      | lst ds =>
        simp only [e, Option.some.injEq] at h
        subst h
        obtain ⟨vs, q1, _⟩ := q
        exact .base (.lst q1)
      | dct _ => exact q.elim
      | ins _ _ => exact q.elim
theorem isi_ok {pins : List (Addr × Obj)} {sh : Shared} {σ : L2.St} {H : Hp} {x : V} {us : List Value} {Q : VK} {φ : Ph} {s : S} {d : D} {t : Ty} {b : Bool} (I : Inv X pins σ H sh) (rv : Vals [x, .ty (tyName t)] us)
    (r : Rel X.K φ s H) (hx : RV X.K φ s.length H x d) (h : isiD d t s = some b) (hq : Q (.bl b) H) : wpAny (model X.prog X.w) X.A (call (.builtin "isinstance") us) (EP X pins σ Q) X.xe sh := by
  obtain ⟨a, h1, h2⟩ := isi_kind h
  exact call_isi pins sh σ H _ us Q I rv ⟨x, _, _, _, b, rfl, .ty _, ty_of r hx h1, kit_ty h2, hq⟩

/-! ### stores -/
theorem set_ok {pins : List (Addr × Obj)} {sh : Shared} {σ : L2.St} {H : Hp} {o i x : V} {ov iv v : Value} {Q : Hp → Prop} {φ : Ph} {s s' : S} {d e f : D} (I : Inv X pins σ H sh) (ro : RelV o ov) (ri : RelV i iv) (rx : RelV x v)
    (r : Rel X.K φ s H) (ho : RV X.K φ s.length H o d) (hi : RV X.K φ s.length H i e) (hx : RV X.K φ s.length H x f) (h : setD d e f s = some s')
    (hq : ∀ H', Ext φ s.length H φ s'.length H' → Rel X.K φ s' H' → Q H') : wpAny (model X.prog X.w) X.A (setItem ov iv v) (fun _ s' => ∃ H', Inv X pins σ H' s' ∧ Q H') X.xe sh := by
  cases d with
  | ref k =>
    cases e with
    | int j =>
      cases hi
      cases ho with
      | ref _ hk =>
        unfold setD at h
        cases e1 : s[k]? with
        | none => simp [e1] at h
        | some c => cases c with
          | lst xs =>
            simp only [e1] at h
            cases e2 : ixD xs.length j with
            | none => rw [e2] at h; cases h
            | some m =>
              rw [e2] at h
              cases h
              obtain ⟨_, vs, q1, q2⟩ := cell_at r e1
              have hn : ixN vs.length j = some m := by rw [q2.length]; exact e2
              obtain ⟨x1, x2⟩ := r.write hk (q2.set hx m)
              exact set_list pins sh σ H _ _ x ov iv v Q I ro ri rx ⟨φ k, vs, j, m, rfl, rfl, q1, hn, hq _ x1 x2⟩
          | dct _ => simp [e1] at h
          | ins _ _ => simp [e1] at h
    | _ => cases h
  | _ => cases h
end
end Kp

/-! Kp, part G: expressions' readings. Own work. -/
namespace Kp
open PySem PySem.Spec PyProof.Rows L2

def EnvR (K : PySem.W.Frag) (φ : Ph) (n : Nat) (H : Hp) (σ : L2.St) (env : Env) : Prop :=
  σ.length = env.length ∧ ∀ (i : Nat) (d : D), env[i]? = some (some d) → ∃ v, σ[i]? = some (some v) ∧ RV K φ n H v d
abbrev ER := Env → S → Option (D × S)
def tE (K : PySem.W.Frag) (r : ER) : TE := fun σ H Q => ∃ φ env s d s', Rel K φ s H ∧ EnvR K φ s.length H σ env ∧ r env s = some (d, s') ∧ PostE K φ s.length H d s' Q
def PostT (K : PySem.W.Frag) (φ : Ph) (n : Nat) (H : Hp) (b : Bool) (s' : S) (Q : Bool → Hp → Prop) : Prop := ∀ H' φ', Ext φ n H φ' s'.length H' → Rel K φ' s' H' → Q b H'
def tT (K : PySem.W.Frag) (r : ER) : TT := fun σ H Q => ∃ φ env s d s' b, Rel K φ s H ∧ EnvR K φ s.length H σ env ∧ r env s = some (d, s') ∧ truD s' d = some b ∧ PostT K φ s.length H b s' Q
def PostA (K : PySem.W.Frag) (φ : Ph) (n : Nat) (H : Hp) (ds : List D) (s' : S) (Q : List V → Hp → Prop) : Prop := ∀ vs H' φ', Ext φ n H φ' s'.length H' → Rel K φ' s' H' → RVs K φ' s'.length H' vs ds → Q vs H'
def tA (K : PySem.W.Frag) (r : Env → S → Option (List D × S)) : TA := fun σ H Q => ∃ φ env s ds s', Rel K φ s H ∧ EnvR K φ s.length H σ env ∧ r env s = some (ds, s') ∧ PostA K φ s.length H ds s' Q
def PostO (K : PySem.W.Frag) (φ : Ph) (n : Nat) (H : Hp) (o : Option Int) (s' : S) (Q : Option Int → Hp → Prop) : Prop := ∀ H' φ', Ext φ n H φ' s'.length H' → Rel K φ' s' H' → Q o H'
def tO (K : PySem.W.Frag) (r : Env → S → Option (Option Int × S)) : TO := fun σ H Q => ∃ φ env s o s', Rel K φ s H ∧ EnvR K φ s.length H σ env ∧ r env s = some (o, s') ∧ PostO K φ s.length H o s' Q

section
variable {K : PySem.W.Frag} {φ φ1 : Ph} {n n1 : Nat} {H H1 : Hp} {σ : L2.St} {env : Env} {s s1 : S} {d : D} {b : Bool} {ds : List D}
theorem EnvR.mono (e : EnvR K φ n H σ env) (cm : CM φ n H) (x : Ext φ n H φ1 n1 H1) : EnvR K φ1 n1 H1 σ env :=
  ⟨e.1, fun i d h => let ⟨v, h1, h2⟩ := e.2 i d h; ⟨v, h1, h2.mono cm x⟩⟩
theorem EnvR.set (e : EnvR K φ n H σ env) {v : V} (hv : RV K φ n H v d) (i : Nat) : EnvR K φ n H (σ.set i (some v)) (env.set i (some d)) := by
  refine ⟨by rw [List.length_set, List.length_set]; exact e.1, fun j f h => ?_⟩
  by_cases hj : i = j
  · subst hj
    have hl : i < env.length := by
      have := (List.getElem?_eq_some_iff.mp h).1
      rwa [List.length_set] at this
    rw [List.getElem?_set_self hl] at h
    cases h
    exact ⟨v, List.getElem?_set_self (by rw [e.1]; exact hl), hv⟩
  · rw [List.getElem?_set_ne hj] at h ⊢
    exact e.2 j f h
theorem EnvR.wipe (e : EnvR K φ n H σ env) : ∀ own : List Nat, EnvR K φ n H (wipe σ own) (wipeD env own)
  | [] => e
  | v :: vs => by
    have h := EnvR.wipe e vs
    show EnvR K φ n H ((L2.wipe σ vs).set v none) ((wipeD env vs).set v none)
    refine ⟨by rw [List.length_set, List.length_set]; exact h.1, fun j f g => ?_⟩
    by_cases hj : v = j
    · subst hj
      have hl : v < (wipeD env vs).length := by
        have := (List.getElem?_eq_some_iff.mp g).1
        rwa [List.length_set] at this
      rw [List.getElem?_set_self hl] at g
      cases g
    · rw [List.getElem?_set_ne hj] at g ⊢
      exact h.2 j f g
theorem tE_go {r : ER} {P : VK} (rel : Rel K φ s H) (e : EnvR K φ s.length H σ env) (h : r env s = some (d, s1))
    (k : ∀ v H1 φ1, Ext φ s.length H φ1 s1.length H1 → Rel K φ1 s1 H1 → EnvR K φ1 s1.length H1 σ env → RV K φ1 s1.length H1 v d → P v H1) : tE K r σ H P :=
  ⟨φ, env, s, d, s1, rel, e, h, fun v H' φ' x r' v' => k v H' φ' x r' (e.mono rel.cm x) v'⟩
theorem tT_go {r : ER} {P : Bool → Hp → Prop} (rel : Rel K φ s H) (e : EnvR K φ s.length H σ env) (h : r env s = some (d, s1)) (hb : truD s1 d = some b)
    (k : ∀ H1 φ1, Ext φ s.length H φ1 s1.length H1 → Rel K φ1 s1 H1 → EnvR K φ1 s1.length H1 σ env → P b H1) : tT K r σ H P :=
  ⟨φ, env, s, d, s1, b, rel, e, h, hb, fun H' φ' x r' => k H' φ' x r' (e.mono rel.cm x)⟩
theorem tA_go {r : Env → S → Option (List D × S)} {P : List V → Hp → Prop} (rel : Rel K φ s H) (e : EnvR K φ s.length H σ env) (h : r env s = some (ds, s1))
    (k : ∀ vs H1 φ1, Ext φ s.length H φ1 s1.length H1 → Rel K φ1 s1 H1 → EnvR K φ1 s1.length H1 σ env → RVs K φ1 s1.length H1 vs ds → P vs H1) : tA K r σ H P :=
  ⟨φ, env, s, ds, s1, rel, e, h, fun v H' φ' x r' v' => k v H' φ' x r' (e.mono rel.cm x) v'⟩
theorem tO_go {r : Env → S → Option (Option Int × S)} {o : Option Int} {P : Option Int → Hp → Prop} (rel : Rel K φ s H) (e : EnvR K φ s.length H σ env) (h : r env s = some (o, s1))
    (k : ∀ H1 φ1, Ext φ s.length H φ1 s1.length H1 → Rel K φ1 s1 H1 → EnvR K φ1 s1.length H1 σ env → P o H1) : tO K r σ H P :=
  ⟨φ, env, s, o, s1, rel, e, h, fun H' φ' x r' => k H' φ' x r' (e.mono rel.cm x)⟩
end
section
variable {X : Cx} {e a b c : Expr} {pos : Pos} {ra rb rc : ER}
theorem pe_imp {t t' : TE} (h : PE X e t) (k : ∀ σ H Q, t' σ H Q → t σ H Q) : PE X e t' := ⟨fun pins s σ H Q I hw => h.run pins s σ H Q I (k σ H Q hw)⟩
theorem pt_imp {t t' : TT} (h : PT X e t) (k : ∀ σ H Q, t' σ H Q → t σ H Q) : PT X e t' := ⟨fun pins s σ H Q I hw => h.run pins s σ H Q I (k σ H Q hw)⟩
theorem pw_imp {t t' : TT} (h : PW X e t) (k : ∀ σ H Q, t' σ H Q → t σ H Q) : PW X e t' := ⟨fun wh pins s σ H Q I hw => h.run wh pins s σ H Q I (k σ H Q hw)⟩
theorem pa_imp {es : List Expr} {t t' : TA} (h : PA X es t) (k : ∀ σ H Q, t' σ H Q → t σ H Q) : PA X es t' := ⟨fun p pins s σ H Q I hw => h.run p pins s σ H Q I (k σ H Q hw)⟩
theorem po_imp {o : Option Expr} {t t' : TO} (h : PO X o t) (k : ∀ σ H Q, t' σ H Q → t σ H Q) : PO X o t' := ⟨fun pins s σ H Q I hw => h.run pins s σ H Q I (k σ H Q hw)⟩

/-! ### names, constants -/
theorem se_var {i : Nat} {x : Str} (hN : X.N[i]? = some x) (hv : Vis X.env.scope x) (hd : (x == ("__debug__" : Str)) = false) (hcd : (x == ("__classdict__" : Str)) = false) :
    PE X (.Name x pos) (tE X.K fun env s => match env[i]? with
      | some (some d) => some (d, s)
      | _ => none) := by
  refine pe_imp (pe_var hN hv hd hcd) fun σ H Q ⟨φ, env, s, d, s', r, e, h, q⟩ => ?_
  have h : (match env[i]? with
      | some (some d) => some (d, s)
      | _ => none) = some (d, s') := h
  cases e1 : env[i]? with
  | none => rw [e1] at h; cases h
  | some o => cases o with
    | none => rw [e1] at h; cases h
    | some d0 =>
      rw [e1] at h
      cases h
      obtain ⟨v, h1, h2⟩ := e.2 i d e1
      exact ⟨v, h1, q.now r h2⟩
theorem se_c {v : V} {d : D} (h : PE X e (tC v)) (hv : ∀ φ n H, RV X.K φ n H v d) : PE X e (tE X.K fun _ s => some (d, s)) := by
  refine pe_imp h fun σ H Q ⟨φ, env, s, d', s', r, _, h, q⟩ => ?_
  cases h
  exact q.now r (hv _ _ _)

/-! ### operators -/
def rOp (K : PySem.W.Frag) (g : D → D → S → Option (D × S)) : R2 := fun x y H Q => ∃ φ s d e d' s', Rel K φ s H ∧ RV K φ s.length H x d ∧ RV K φ s.length H y e ∧ g d e s = some (d', s') ∧ PostE K φ s.length H d' s' Q
theorem op_of {f : Value → Value → Sem Value} {g : D → D → S → Option (D × S)} (h : OpS X f g) : OpR X f (rOp X.K g) := by
  intro pins s σ H x y v u Q I rx ry ⟨φ, st, d, e, d', s', r, hx, hy, hg, q⟩
  exact h pins s σ H x y v u Q φ st d e d' s' I rx ry r hx hy hg q
def rOb (K : PySem.W.Frag) (g : D → D → S → Option Bool) : R2 := fun x y H Q => ∃ φ s d e b, Rel K φ s H ∧ RV K φ s.length H x d ∧ RV K φ s.length H y e ∧ g d e s = some b ∧ Q (.bl b) H
theorem ob_of {f : Value → Value → Sem Value} {g : D → D → S → Option Bool} (h : OpB X f g) : OpR X f (rOb X.K g) := by
  intro pins s σ H x y v u Q I rx ry ⟨φ, st, d, e, b, r, hx, hy, hg, q⟩
  exact h pins s σ H x y v u Q φ st d e b I rx ry r hx hy hg q
theorem se_bin {op : Operator} {g : D → D → S → Option (D × S)} (ho : OpS X (binaryOp op) g) (ha : PE X a (tE X.K ra)) (hb : PE X b (tE X.K rb)) :
    PE X (.BinOp a op b pos) (tE X.K fun env s => bd (ra env s) fun x s1 => bd (rb env s1) fun y s2 => g x y s2) := by
  refine pe_imp (pe_op (op_of ho) ha hb) fun σ H Q ⟨φ, env, s, d, s', r, e, h, q⟩ => ?_
  obtain ⟨x, s1, h1, h⟩ := bd_inv h
  obtain ⟨y, s2, h2, h⟩ := bd_inv h
  refine tE_go r e h1 fun v H1 φ1 x1 r1 e1 hv => tE_go r1 e1 h2 fun u H2 φ2 x2 r2 e2 hu => ?_
  exact ⟨φ2, s2, x, y, d, s', r2, hv.mono r1.cm x2, hu, h, q.ext (x1.trans r1.cm x2) r2⟩
theorem se_neg (ha : PE X a (tE X.K ra)) : PE X (.UnaryOp .USub a pos) (tE X.K fun env s => bd (ra env s) fun x s1 => match x with
    | .int i => some (.int (-i), s1)
    | _ => none) := by
  refine pe_imp (pe_un un_neg ha) fun σ H Q ⟨φ, env, s, d, s', r, e, h, q⟩ => ?_
  obtain ⟨x, s1, h1, h⟩ := bd_inv h
  refine tE_go r e h1 fun v H1 φ1 x1 r1 e1 hv => ?_
  cases x with
  | int i => cases hv; cases h; exact ⟨i, rfl, (q.ext x1 r1).now r1 (.int _)⟩
  | _ => cases h
theorem se_not (ha : PE X a (tE X.K ra)) : PE X (.UnaryOp .Not a pos) (tE X.K fun env s => bd (ra env s) fun x s1 => (truD s1 x).map fun b => (.bl (!b), s1)) := by
  refine pe_imp (pe_notT ha) fun σ H Q ⟨φ, env, s, d, s', r, e, h, q⟩ => ?_
  obtain ⟨x, s1, h1, h⟩ := bd_inv h
  refine tE_go r e h1 fun v H1 φ1 x1 r1 e1 hv => ?_
  cases hb : truD s1 x with
  | none => rw [hb] at h; cases h
  | some k =>
    rw [hb] at h
    cases h
    exact ⟨k, tru_rel r1 hv hb, (q.ext x1 r1).now r1 (.bl _)⟩
theorem se_cmp {op : CmpOp} {g : D → D → S → Option Bool} (ho : OpB X (compareOp op) g) (ha : PE X a (tE X.K ra)) (hb : PE X b (tE X.K rb)) (hm : behindInMarks op b = false) :
    PE X (.Compare a [op] [b] pos) (tE X.K fun env s => bd (ra env s) fun x s1 => bd (rb env s1) fun y s2 => (g x y s2).map fun b => (.bl b, s2)) := by
  refine pe_imp (pe_cmpR (ob_of ho) ha hb hm) fun σ H Q ⟨φ, env, s, d, s', r, e, h, q⟩ => ?_
  obtain ⟨x, s1, h1, h⟩ := bd_inv h
  obtain ⟨y, s2, h2, h⟩ := bd_inv h
  refine tE_go r e h1 fun v H1 φ1 x1 r1 e1 hv => tE_go r1 e1 h2 fun u H2 φ2 x2 r2 e2 hu => ?_
  cases hg : g x y s2 with
  | none => rw [hg] at h; cases h
  | some k =>
    rw [hg] at h
    cases h
    exact ⟨φ2, _, x, y, _, r2, hv.mono r1.cm x2, hu, hg, (q.ext (x1.trans r1.cm x2) r2).now r2 (.bl _)⟩
theorem st_cmp {op : CmpOp} {g : D → D → S → Option Bool} (ho : OpB X (compareOp op) g) (ha : PE X a (tE X.K ra)) (hb : PE X b (tE X.K rb)) (hm : behindInMarks op b = false) :
    PT X (.Compare a [op] [b] pos) (tT X.K fun env s => bd (ra env s) fun x s1 => bd (rb env s1) fun y s2 => (g x y s2).map fun b => (.bl b, s2)) := by
  refine pt_imp (pt_cmpR (ob_of ho) ha hb hm) fun σ H Q ⟨φ, env, s, d, s', b', r, e, h, hb', q⟩ => ?_
  obtain ⟨x, s1, h1, h⟩ := bd_inv h
  obtain ⟨y, s2, h2, h⟩ := bd_inv h
  refine tE_go r e h1 fun v H1 φ1 x1 r1 e1 hv => tE_go r1 e1 h2 fun u H2 φ2 x2 r2 e2 hu => ?_
  cases hg : g x y s2 with
  | none => rw [hg] at h; cases h
  | some k =>
    rw [hg] at h
    cases h
    cases hb'
    exact ⟨φ2, _, x, y, _, r2, hv.mono r1.cm x2, hu, hg, _, rfl, q _ _ (x1.trans r1.cm x2) r2⟩
theorem chn_inv {g1 g2 : D → D → S → Option Bool} {env : Env} {x y : D} {s2 s' : S} {d : D} (h : (match g1 x y s2 with
    | some true => bd (rc env s2) fun z s3 => (g2 y z s3).map fun b => (.bl b, s3)
    | some false => some (.bl false, s2)
    | none => none) = some (d, s')) : ∃ k, g1 x y s2 = some k ∧ (k = true → ∃ z s3 b, rc env s2 = some (z, s3) ∧ g2 y z s3 = some b ∧ d = .bl b ∧ s' = s3) ∧ (k = false → d = .bl false ∧ s' = s2) := by
  cases hg : g1 x y s2 with
  | none => rw [hg] at h; cases h
  | some k =>
    rw [hg] at h
    refine ⟨k, rfl, fun hk => ?_, fun hk => ?_⟩
    · subst hk
      obtain ⟨z, s3, h3, h⟩ := bd_inv h
      cases hg2 : g2 y z s3 with
      | none => rw [hg2] at h; cases h
      | some b => rw [hg2] at h; cases h; exact ⟨z, s', b, h3, hg2, rfl, rfl⟩
    · subst hk
      cases h
      exact ⟨rfl, rfl⟩
theorem chn_core {g1 g2 : D → D → S → Option Bool} {σ : L2.St} {H : Hp} {P : VK} {φ : Ph} {env : Env} {s s' : S} {d : D} (r : Rel X.K φ s H) (e : EnvR X.K φ s.length H σ env)
    (h : (bd (ra env s) fun x s1 => bd (rb env s1) fun y s2 => match g1 x y s2 with
      | some true => bd (rc env s2) fun z s3 => (g2 y z s3).map fun b => (.bl b, s3)
      | some false => some (.bl false, s2)
      | none => none) = some (d, s'))
    (q : ∀ k H' φ', d = .bl k → Ext φ s.length H φ' s'.length H' → Rel X.K φ' s' H' → P (.bl k) H') : tChain (rOb X.K g1) (rOb X.K g2) (tE X.K ra) (tE X.K rb) (tE X.K rc) σ H P := by
  obtain ⟨x, s1, h1, h⟩ := bd_inv h
  obtain ⟨y, s2, h2, h⟩ := bd_inv h
  obtain ⟨k, hg, ht, hf⟩ := chn_inv h
  refine tE_go r e h1 fun v H1 φ1 x1 r1 e1 hv => tE_go r1 e1 h2 fun u H2 φ2 x2 r2 e2 hu => ?_
  refine ⟨φ2, s2, x, y, k, r2, hv.mono r1.cm x2, hu, hg, k, rfl, ?_⟩
  cases k with
  | true =>
    rw [if_pos rfl]
    obtain ⟨z, s3, b, h3, h4, rfl, rfl⟩ := ht rfl
    refine tE_go r2 e2 h3 fun w H3 φ3 x3 r3 e3 hw => ?_
    exact ⟨φ3, s', y, z, b, r3, hu.mono r2.cm x3, hw, h4, q b _ _ rfl ((x1.trans r1.cm x2).trans r2.cm x3) r3⟩
  | false =>
    rw [if_neg Bool.false_ne_true]
    obtain ⟨rfl, rfl⟩ := hf rfl
    exact q false _ _ rfl (x1.trans r1.cm x2) r2
theorem se_chn {op op' : CmpOp} {g1 g2 : D → D → S → Option Bool} (ho : OpB X (compareOp op) g1) (ho' : OpB X (compareOp op') g2) (ha : PE X a (tE X.K ra)) (hb : PE X b (tE X.K rb)) (hc : PE X c (tE X.K rc)) (hm : lastMarks [op, op'] [b, c] = false) :
    PE X (.Compare a [op, op'] [b, c] pos) (tE X.K fun env s => bd (ra env s) fun x s1 => bd (rb env s1) fun y s2 => match g1 x y s2 with
      | some true => bd (rc env s2) fun z s3 => (g2 y z s3).map fun b => (.bl b, s3)
      | some false => some (.bl false, s2)
      | none => none) := by
  refine pe_imp (pe_chain (ob_of ho) (ob_of ho') ha hb hc hm) fun σ H Q ⟨φ, env, s, d, s', r, e, h, q⟩ => ?_
  exact chn_core r e h fun k H' φ' ed x' r' => q _ _ _ x' r' (by rw [ed]; exact .bl k)
theorem st_chn {op op' : CmpOp} {g1 g2 : D → D → S → Option Bool} (ho : OpB X (compareOp op) g1) (ho' : OpB X (compareOp op') g2) (ha : PE X a (tE X.K ra)) (hb : PE X b (tE X.K rb)) (hc : PE X c (tE X.K rc)) (hm : lastMarks [op, op'] [b, c] = false) :
    PT X (.Compare a [op, op'] [b, c] pos) (tT X.K fun env s => bd (ra env s) fun x s1 => bd (rb env s1) fun y s2 => match g1 x y s2 with
      | some true => bd (rc env s2) fun z s3 => (g2 y z s3).map fun b => (.bl b, s3)
      | some false => some (.bl false, s2)
      | none => none) := by
  refine pt_imp (pt_chain (ob_of ho) (ob_of ho') ha hb hc hm) fun σ H Q ⟨φ, env, s, d, s', b', r, e, h, hb', q⟩ => ?_
  refine chn_core r e h fun k H' φ' ed x' r' => ⟨k, rfl, ?_⟩
  rw [ed] at hb'
  cases hb'
  exact q _ _ x' r'
theorem st_not (ha : PT X a (tT X.K ra)) : PT X (.UnaryOp .Not a pos) (tT X.K fun env s => bd (ra env s) fun x s1 => (truD s1 x).map fun b => (.bl (!b), s1)) := by
  refine pt_imp (pt_not ha) fun σ H Q ⟨φ, env, s, d, s', b', r, e, h, hb', q⟩ => ?_
  obtain ⟨x, s1, h1, h⟩ := bd_inv h
  cases hb : truD s1 x with
  | none => rw [hb] at h; cases h
  | some k =>
    rw [hb] at h
    cases h
    cases hb'
    exact tT_go r e h1 hb fun H1 φ1 x1 r1 e1 => q _ _ x1 r1
/-- a test by its value's truth -/
theorem st_truth (ha : PE X a (tE X.K ra)) (he : ∀ whole, isTrue a X.env whole = (do let v ← whole; standAt a.pos; holding [v] (truthy v))) : PT X a (tT X.K ra) := by
  refine pt_imp (pt_truth ha he) fun σ H Q ⟨φ, env, s, d, s', b', r, e, h, hb', q⟩ => ?_
  exact tE_go r e h fun v H1 φ1 x1 r1 e1 hv => ⟨b', tru_rel r1 hv hb', q _ _ x1 r1⟩
theorem se_isn {j : Nat} {p2 : Pos} (ha : PE X a (tE X.K ra)) : PE X (.Compare a [.Is] [.Constant .none j p2] pos) (tE X.K fun env s => bd (ra env s) fun x s1 => some (.bl (decide (x = .non)), s1)) := by
  refine pe_imp (pe_cmpR op_isN ha pe_non (nomark _)) fun σ H Q ⟨φ, env, s, d, s', r, e, h, q⟩ => ?_
  obtain ⟨x, s1, h1, h⟩ := bd_inv h
  cases h
  refine tE_go r e h1 fun v H1 φ1 x1 r1 e1 hv => ⟨rfl, ?_⟩
  have ev : decide (v = .non) = decide (x = .non) := by cases hv <;> simp
  rw [ev]
  exact (q.ext x1 r1).now r1 (.bl _)
theorem se_ntn {j : Nat} {p2 : Pos} (ha : PE X a (tE X.K ra)) : PE X (.Compare a [.IsNot] [.Constant .none j p2] pos) (tE X.K fun env s => bd (ra env s) fun x s1 => some (.bl (!decide (x = .non)), s1)) := by
  refine pe_imp (pe_cmpR op_notN ha pe_non (nomark _)) fun σ H Q ⟨φ, env, s, d, s', r, e, h, q⟩ => ?_
  obtain ⟨x, s1, h1, h⟩ := bd_inv h
  cases h
  refine tE_go r e h1 fun v H1 φ1 x1 r1 e1 hv => ⟨rfl, ?_⟩
  have ev : decide (v = .non) = decide (x = .non) := by cases hv <;> simp
  rw [ev]
  exact (q.ext x1 r1).now r1 (.bl _)
theorem st_isn {j : Nat} {p2 : Pos} (ha : PE X a (tE X.K ra)) : PT X (.Compare a [.Is] [.Constant .none j p2] pos) (tT X.K fun env s => bd (ra env s) fun x s1 => some (.bl (decide (x = .non)), s1)) := by
  refine pt_imp (pt_cmpR op_isN ha pe_non (nomark _)) fun σ H Q ⟨φ, env, s, d, s', b', r, e, h, hb', q⟩ => ?_
  obtain ⟨x, s1, h1, h⟩ := bd_inv h
  cases h
  cases hb'
  refine tE_go r e h1 fun v H1 φ1 x1 r1 e1 hv => ⟨rfl, _, rfl, ?_⟩
  have ev : decide (v = .non) = decide (x = .non) := by cases hv <;> simp
  rw [ev]
  exact q _ _ x1 r1
theorem st_ntn {j : Nat} {p2 : Pos} (ha : PE X a (tE X.K ra)) : PT X (.Compare a [.IsNot] [.Constant .none j p2] pos) (tT X.K fun env s => bd (ra env s) fun x s1 => some (.bl (!decide (x = .non)), s1)) := by
  refine pt_imp (pt_cmpR op_notN ha pe_non (nomark _)) fun σ H Q ⟨φ, env, s, d, s', b', r, e, h, hb', q⟩ => ?_
  obtain ⟨x, s1, h1, h⟩ := bd_inv h
  cases h
  cases hb'
  refine tE_go r e h1 fun v H1 φ1 x1 r1 e1 hv => ⟨rfl, _, rfl, ?_⟩
  have ev : decide (v = .non) = decide (x = .non) := by cases hv <;> simp
  rw [ev]
  exact q _ _ x1 r1
theorem se_ite (hc : PT X c (tT X.K rc)) (ha : PE X a (tE X.K ra)) (hb : PE X b (tE X.K rb)) : PE X (.IfExp c a b pos) (tE X.K fun env s => bd (rc env s) fun x s1 => match truD s1 x with
    | some true => ra env s1
    | some false => rb env s1
    | none => none) := by
  refine pe_imp (pe_ifExp hc ha hb) fun σ H Q ⟨φ, env, s, d, s', r, e, h, q⟩ => ?_
  obtain ⟨x, s1, h1, h⟩ := bd_inv h
  cases hb : truD s1 x with
  | none => rw [hb] at h; cases h
  | some k =>
    rw [hb] at h
    refine tT_go r e h1 hb fun H1 φ1 x1 r1 e1 => ?_
    cases k with
    | true => rw [if_pos rfl]; exact ⟨φ1, _, s1, d, s', r1, e1, h, q.ext x1 r1⟩
    | false => rw [if_neg Bool.false_ne_true]; exact ⟨φ1, _, s1, d, s', r1, e1, h, q.ext x1 r1⟩
/-- and, or: the first, the rest -/
theorem se_one {op : BoolOp} (ha : PE X a (tE X.K ra)) : PE X (.BoolOp op [a] pos) (tE X.K fun env s => bd (ra env s) fun x s1 => some (x, s1)) := by
  refine pe_imp (pe_one ha) fun σ H Q ⟨φ, env, s, d, s', r, e, h, q⟩ => ?_
  obtain ⟨x, s1, h1, h⟩ := bd_inv h
  cases h
  exact ⟨φ, env, s, d, s', r, e, h1, q⟩
theorem se_and {rest : List Expr} (ha : PE X a (tE X.K ra)) (hb : PE X (.BoolOp .And (b :: rest) pos) (tE X.K rb)) : PE X (.BoolOp .And (a :: b :: rest) pos) (tE X.K fun env s => bd (ra env s) fun x s1 => match truD s1 x with
    | some true => rb env s1
    | some false => some (x, s1)
    | none => none) := by
  refine pe_imp (pe_andT ha hb) fun σ H Q ⟨φ, env, s, d, s', r, e, h, q⟩ => ?_
  obtain ⟨x, s1, h1, h⟩ := bd_inv h
  cases hb : truD s1 x with
  | none => rw [hb] at h; cases h
  | some k =>
    rw [hb] at h
    refine tE_go r e h1 fun v H1 φ1 x1 r1 e1 hv => ⟨k, tru_rel r1 hv hb, ?_⟩
    cases k with
    | true => rw [if_pos rfl]; exact ⟨φ1, _, s1, d, s', r1, e1, h, q.ext x1 r1⟩
    | false => rw [if_neg Bool.false_ne_true]; cases h; exact (q.ext x1 r1).now r1 hv
theorem se_or {rest : List Expr} (ha : PE X a (tE X.K ra)) (hb : PE X (.BoolOp .Or (b :: rest) pos) (tE X.K rb)) : PE X (.BoolOp .Or (a :: b :: rest) pos) (tE X.K fun env s => bd (ra env s) fun x s1 => match truD s1 x with
    | some true => some (x, s1)
    | some false => rb env s1
    | none => none) := by
  refine pe_imp (pe_orT ha hb) fun σ H Q ⟨φ, env, s, d, s', r, e, h, q⟩ => ?_
  obtain ⟨x, s1, h1, h⟩ := bd_inv h
  cases hb : truD s1 x with
  | none => rw [hb] at h; cases h
  | some k =>
    rw [hb] at h
    refine tE_go r e h1 fun v H1 φ1 x1 r1 e1 hv => ⟨k, tru_rel r1 hv hb, ?_⟩
    cases k with
    | true => rw [if_pos rfl]; cases h; exact (q.ext x1 r1).now r1 hv
    | false => rw [if_neg Bool.false_ne_true]; exact ⟨φ1, _, s1, d, s', r1, e1, h, q.ext x1 r1⟩
theorem st_one_and (ha : PT X a (tT X.K ra)) : PW X (.BoolOp .And [a] pos) (tT X.K fun env s => bd (ra env s) fun x s1 => some (x, s1)) := by
  refine pw_imp (pw_and1 ha) fun σ H Q ⟨φ, env, s, d, s', b', r, e, h, hb', q⟩ => ?_
  obtain ⟨x, s1, h1, h⟩ := bd_inv h
  cases h
  exact ⟨φ, env, s, d, s', b', r, e, h1, hb', q⟩
theorem st_one_or (ha : PT X a (tT X.K ra)) : PW X (.BoolOp .Or [a] pos) (tT X.K fun env s => bd (ra env s) fun x s1 => some (x, s1)) := by
  refine pw_imp (pw_or1 ha) fun σ H Q ⟨φ, env, s, d, s', b', r, e, h, hb', q⟩ => ?_
  obtain ⟨x, s1, h1, h⟩ := bd_inv h
  cases h
  exact ⟨φ, env, s, d, s', b', r, e, h1, hb', q⟩
theorem st_and {rest : List Expr} (ha : PT X a (tT X.K ra)) (hb : PW X (.BoolOp .And (b :: rest) pos) (tT X.K rb)) : PW X (.BoolOp .And (a :: b :: rest) pos) (tT X.K fun env s => bd (ra env s) fun x s1 => match truD s1 x with
    | some true => rb env s1
    | some false => some (x, s1)
    | none => none) := by
  refine pw_imp (pw_and ha hb) fun σ H Q ⟨φ, env, s, d, s', b', r, e, h, hb', q⟩ => ?_
  obtain ⟨x, s1, h1, h⟩ := bd_inv h
  cases hb : truD s1 x with
  | none => rw [hb] at h; cases h
  | some k =>
    rw [hb] at h
    refine tT_go r e h1 hb fun H1 φ1 x1 r1 e1 => ?_
    cases k with
    | true => rw [if_pos rfl]; exact ⟨φ1, _, s1, d, s', b', r1, e1, h, hb', fun H' φ' x' r' => q H' φ' (x1.trans r1.cm x') r'⟩
    | false => rw [if_neg Bool.false_ne_true]; cases h; rw [hb] at hb'; cases hb'; exact q _ _ x1 r1
theorem st_or {rest : List Expr} (ha : PT X a (tT X.K ra)) (hb : PW X (.BoolOp .Or (b :: rest) pos) (tT X.K rb)) : PW X (.BoolOp .Or (a :: b :: rest) pos) (tT X.K fun env s => bd (ra env s) fun x s1 => match truD s1 x with
    | some true => some (x, s1)
    | some false => rb env s1
    | none => none) := by
  refine pw_imp (pw_or ha hb) fun σ H Q ⟨φ, env, s, d, s', b', r, e, h, hb', q⟩ => ?_
  obtain ⟨x, s1, h1, h⟩ := bd_inv h
  cases hb : truD s1 x with
  | none => rw [hb] at h; cases h
  | some k =>
    rw [hb] at h
    refine tT_go r e h1 hb fun H1 φ1 x1 r1 e1 => ?_
    cases k with
    | true => rw [if_pos rfl]; cases h; rw [hb] at hb'; cases hb'; exact q _ _ x1 r1
    | false => rw [if_neg Bool.false_ne_true]; exact ⟨φ1, _, s1, d, s', b', r1, e1, h, hb', fun H' φ' x' r' => q H' φ' (x1.trans r1.cm x') r'⟩

/-! ### items, slices, displays, calls -/
theorem se_idx (ha : PE X a (tE X.K ra)) (hb : PE X b (tE X.K rb)) (hs : PlainIx b) : PE X (.Subscript a b pos) (tE X.K fun env s => bd (ra env s) fun x s1 => bd (rb env s1) fun y s2 => (idxD x y s2).map fun d => (d, s2)) := by
  have ix : IxR X (fun x y H Q => ∃ φ s d e f, Rel X.K φ s H ∧ RV X.K φ s.length H x d ∧ RV X.K φ s.length H y e ∧ idxD d e s = some f ∧ ∀ z, RV X.K φ s.length H z f → Q z H) := by
    intro value slice pins sh σ H x y v u Q I rx ry ⟨φ, s, d, e, f, r, hx, hy, h, hq⟩ hs
    exact ix_ok I rx ry r hx hy h hq hs
  refine pe_imp (pe_ix ix ha hb hs) fun σ H Q ⟨φ, env, s, d, s', r, e, h, q⟩ => ?_
  obtain ⟨x, s1, h1, h⟩ := bd_inv h
  obtain ⟨y, s2, h2, h⟩ := bd_inv h
  refine tE_go r e h1 fun v H1 φ1 x1 r1 e1 hv => tE_go r1 e1 h2 fun u H2 φ2 x2 r2 e2 hu => ?_
  cases hg : idxD x y s2 with
  | none => rw [hg] at h; cases h
  | some f =>
    rw [hg] at h
    cases h
    exact ⟨φ2, _, x, y, _, r2, hv.mono r1.cm x2, hu, hg, fun z hz => (q.ext (x1.trans r1.cm x2) r2).now r2 hz⟩
theorem so_none : PO X none (tO X.K fun _ s => some (none, s)) := po_imp po_none fun σ H Q ⟨φ, env, s, o, s', r, e, h, q⟩ => by
  cases h
  exact q H φ Ext.refl r
theorem so_some (ha : PE X a (tE X.K ra)) : PO X (some a) (tO X.K fun env s => bd (ra env s) fun x s1 => match x with
    | .int i => some (some i, s1)
    | _ => none) := po_imp (po_some ha) fun σ H Q ⟨φ, env, s, o, s', r, e, h, q⟩ => by
  obtain ⟨x, s1, h1, h⟩ := bd_inv h
  refine tE_go r e h1 fun v H1 φ1 x1 r1 e1 hv => ?_
  cases x with
  | int i => cases hv; cases h; exact ⟨i, rfl, q _ _ x1 r1⟩
  | _ => cases h
theorem se_slc {mu : Bool} {lo hi : Option Expr} {p2 : Pos} {rl rh : Env → S → Option (Option Int × S)} (ha : PE X a (tE X.K ra)) (hl : PO X lo (tO X.K rl)) (hh : PO X hi (tO X.K rh)) :
    PE X (.Subscript a (.Slice lo hi none p2) pos) (tE X.K fun env s => bd (ra env s) fun x s1 => bd (rl env s1) fun l s2 => bd (rh env s2) fun h s3 => slcD mu x l h s3) := by
  refine pe_imp (pe_slice (sl_ok (mu := mu)) ha hl hh) fun σ H Q ⟨φ, env, s, d, s', r, e, h, q⟩ => ?_
  obtain ⟨x, s1, h1, h⟩ := bd_inv h
  obtain ⟨l, s2, h2, h⟩ := bd_inv h
  obtain ⟨u, s3, h3, h⟩ := bd_inv h
  refine tE_go r e h1 fun v H1 φ1 x1 r1 e1 hv => tO_go r1 e1 h2 fun H2 φ2 x2 r2 e2 => tO_go r2 e2 h3 fun H3 φ3 x3 r3 e3 => ?_
  exact ⟨φ3, s3, x, d, s', r3, (hv.mono r1.cm x2).mono r2.cm x3, h, q.ext ((x1.trans r1.cm x2).trans r2.cm x3) r3⟩
theorem sa_nil : PA X [] (tA X.K fun _ s => some ([], s)) := pa_imp pa_nil fun σ H Q ⟨φ, env, s, ds, s', r, e, h, q⟩ => by
  cases h
  exact q [] H φ Ext.refl r .nil
theorem sa_cons {es : List Expr} {rr : Env → S → Option (List D × S)} (ha : PE X a (tE X.K ra)) (hr : PA X es (tA X.K rr)) (hs : starEach (a :: es) X.env = (false, eval a X.env) :: starEach es X.env) :
    PA X (a :: es) (tA X.K fun env s => bd (ra env s) fun x s1 => bd (rr env s1) fun xs s2 => some (x :: xs, s2)) := pa_imp (pa_cons ha hr hs) fun σ H Q ⟨φ, env, s, ds, s', r, e, h, q⟩ => by
  obtain ⟨x, s1, h1, h⟩ := bd_inv h
  obtain ⟨xs, s2, h2, h⟩ := bd_inv h
  cases h
  refine tE_go r e h1 fun v H1 φ1 x1 r1 e1 hv => tA_go r1 e1 h2 fun vs H2 φ2 x2 r2 e2 hvs => ?_
  exact q _ _ _ (x1.trans r1.cm x2) r2 (.cons (hv.mono r1.cm x2) hvs)
theorem se_tup {es : List Expr} {k : Nat} {rr : Env → S → Option (List D × S)} (h : PA X es (tA X.K rr)) : PE X (.Tuple es k pos) (tE X.K fun env s => bd (rr env s) newT) := by
  refine pe_imp (pe_tup h) fun σ H Q ⟨φ, env, s, d, s', r, e, h, q⟩ => ?_
  obtain ⟨xs, s1, h1, h⟩ := bd_inv h
  exact tA_go r e h1 fun vs H1 φ1 x1 r1 e1 hvs => newT_post r1 hvs h (q.ext x1 r1)
theorem se_lst {mu : Bool} {es : List Expr} {rr : Env → S → Option (List D × S)} (h : PA X es (tA X.K rr)) : PE X (.List es pos) (tE X.K fun env s => bd (rr env s) (newL mu)) := by
  refine pe_imp (pe_lst h) fun σ H Q ⟨φ, env, s, d, s', r, e, h, q⟩ => ?_
  obtain ⟨xs, s1, h1, h⟩ := bd_inv h
  exact tA_go r e h1 fun vs H1 φ1 x1 r1 e1 hvs => newL_post r1 hvs h (q.ext x1 r1)
def rCl (K : PySem.W.Frag) (g : List D → S → Option (D × S)) : List V → Hp → VK → Prop := fun xs H Q => ∃ φ s ds d' s', Rel K φ s H ∧ RVs K φ s.length H xs ds ∧ g ds s = some (d', s') ∧ PostE K φ s.length H d' s' Q
theorem cl_of {f : Value} {g : List D → S → Option (D × S)} (h : OpC X f g) : CallR X f (rCl X.K g) := by
  intro pins s σ H xs us Q I rv ⟨φ, st, ds, d', s', r, hx, hg, q⟩
  exact h pins s σ H xs us Q φ st ds d' s' I rv r hx hg q
theorem se_callB {id : String} {x : Str} {p : Pos} {es : List Expr} {g : List D → S → Option (D × S)} {rr : Env → S → Option (List D × S)} (hc : OpC X (.builtin id) g) (hg : Gl X x) (hm : X.mg x = none) (hv : bootBuiltins x = some (.builtin id)) (ha : PA X (a :: es) (tA X.K rr))
    (hn : x ≠ "__name__") (hdb : (x == ("__debug__" : Str)) = false) (he : starEach (a :: es) X.env = (false, eval a X.env) :: starEach es X.env) (hpl : (backTo pos (starEach es X.env)).any (·.1) = false) :
    PE X (.Call (.Name x p) (a :: es) [] pos) (tE X.K fun env s => bd (rr env s) g) := by
  refine pe_imp (pe_callB (cl_of hc) hg hm hv ha hn hdb he hpl) fun σ H Q ⟨φ, env, s, d, s', r, e, h, q⟩ => ?_
  obtain ⟨xs, s1, h1, h⟩ := bd_inv h
  exact tA_go r e h1 fun vs H1 φ1 x1 r1 e1 hvs => ⟨φ1, s1, xs, d, s', r1, hvs, h, q.ext x1 r1⟩
theorem se_callTy {T : String} {x : Str} {p : Pos} {es : List Expr} {g : List D → S → Option (D × S)} {rr : Env → S → Option (List D × S)} (hc : OpC X (.type T) g) (hg : Gl X x) (hm : X.mg x = none) (hv : bootBuiltins x = some (.type T)) (ha : PA X (a :: es) (tA X.K rr))
    (hn : x ≠ "__name__") (hdb : (x == ("__debug__" : Str)) = false) (he : starEach (a :: es) X.env = (false, eval a X.env) :: starEach es X.env) (hpl : (backTo pos (starEach es X.env)).any (·.1) = false) :
    PE X (.Call (.Name x p) (a :: es) [] pos) (tE X.K fun env s => bd (rr env s) g) := by
  refine pe_imp (pe_callTy (cl_of hc) hg hm hv ha hn hdb he hpl) fun σ H Q ⟨φ, env, s, d, s', r, e, h, q⟩ => ?_
  obtain ⟨xs, s1, h1, h⟩ := bd_inv h
  exact tA_go r e h1 fun vs H1 φ1 x1 r1 e1 hvs => ⟨φ1, s1, xs, d, s', r1, hvs, h, q.ext x1 r1⟩
end
end Kp

/-! Kp, part H: what loops walk; targets; calls. Own work. -/
namespace Kp
open PySem PySem.Spec PyProof.Rows L2

def SqB (K : PySem.W.Frag) (H : Hp) (tu : Bool) (a : Addr) (vs : List V) : Prop := if tu = true then SqT K H a vs else SqL K H a vs
def SrcOk (K : PySem.W.Frag) (φ : Ph) (n : Nat) (H : Hp) (tu : Bool) (a : Addr) (ds : List D) (lk : Lk) : Prop :=
  ∀ (φ' : Ph) (s' : S) (H' : Hp), Ext φ n H φ' s'.length H' → Rel K φ' s' H' → lkOk lk s' = true → ∃ vs, SqB K H' tu a vs ∧ RVs K φ' s'.length H' vs ds
section
variable {K : PySem.W.Frag} {φ φ1 : Ph} {n n1 : Nat} {H H1 : Hp} {σ : L2.St} {env : Env} {s s1 : S} {d : D} {b : Bool} {ds : List D}
theorem lkOk_one {i : Nat} {s : S} {ds : List D} (h : lkOk [(i, ds)] s = true) : s[i]? = some (.lst ds) := by
  unfold lkOk at h
  simp only [List.all_cons, List.all_nil, Bool.and_true] at h
  split at h
  · rename_i es e
    rw [e, of_decide_eq_true h]
  · cases h
theorem lkOk_mk {i : Nat} {s : S} {ds : List D} (h : s[i]? = some (.lst ds)) : lkOk [(i, ds)] s = true := by
  unfold lkOk
  simp [h]
theorem lkOk_app {l1 l2 : Lk} {s : S} : lkOk (l1 ++ l2) s = (lkOk l1 s && lkOk l2 s) := List.all_append
theorem src_ok {v : V} {tu : Bool} {lk : Lk} (r : Rel K φ s H) (hv : RV K φ s.length H v d) (h : srcD s d = some (tu, ds, lk)) : ∃ a, v = .ref a ∧ SrcOk K φ s.length H tu a ds lk ∧ lkOk lk s = true := by
  cases d with
  | tup es =>
    cases h
    have hv' := hv
    cases hv with
    | tup q0 r0 =>
      refine ⟨_, rfl, fun φ' s' H' x r' l => ?_, rfl⟩
      have z := hv'.mono r.cm x
      cases z with
      | tup q rr => exact ⟨_, q, rr⟩
  | rol es =>
    cases h
    have hv' := hv
    cases hv with
    | rol q0 r0 =>
      refine ⟨_, rfl, fun φ' s' H' x r' l => ?_, rfl⟩
      have z := hv'.mono r.cm x
      cases z with
      | rol q rr => exact ⟨_, rol_sq q, rr⟩
  | lst es =>
    cases h
    have hv' := hv
    cases hv with
    | lst q0 _ _ r0 =>
      refine ⟨_, rfl, fun φ' s' H' x r' l => ?_, rfl⟩
      have z := hv'.mono r.cm x
      cases z with
      | lst q _ _ rr => exact ⟨_, SqL.of q, rr⟩
  | ref i =>
    unfold srcD at h
    cases e : s[i]? with
    | none => simp [e] at h
    | some c => cases c with
      | lst es =>
        simp only [e, Option.some.injEq, Prod.mk.injEq] at h
        obtain ⟨rfl, rfl, rfl⟩ := h
        cases hv with
        | ref _ hi =>
          refine ⟨_, rfl, fun φ' s' H' x r' l => ?_, lkOk_mk e⟩
          obtain ⟨vs, q1, q2⟩ := r'.cell i _ (lkOk_one l)
          refine ⟨vs, ?_, q2⟩
          rw [← x.old i hi]
          exact SqL.of q1
      | dct _ => simp [e] at h
      | ins _ _ => simp [e] at h
  | _ => cases h
def ItOk (K : PySem.W.Frag) (J : L2.It) (φ : Ph) (n : Nat) (H : Hp) (ds : List D) (lk : Lk) : Prop :=
  ∀ (φ' : Ph) (s' : S) (H' : Hp), Ext φ n H φ' s'.length H' → Rel K φ' s' H' → lkOk lk s' = true → ∀ i : Nat,
    (ds.length ≤ i → J.stop i H') ∧ ∀ d, ds[i]? = some d → J.go i H' ∧ ∀ v H'', J.yld i H' v H'' → ∃ φ'', Ext φ' s'.length H' φ'' s'.length H'' ∧ Rel K φ'' s' H'' ∧ RV K φ'' s'.length H'' v d
theorem it_list {a : Addr} {lk : Lk} (h : SrcOk K φ n H false a ds lk) : ItOk K (Itl K a) φ n H ds lk := by
  intro φ' s' H' x r l i
  obtain ⟨vs, q, rr⟩ := h φ' s' H' x r l
  refine ⟨fun hi => ⟨vs, q, by rw [rr.length]; exact hi⟩, fun d hd => ?_⟩
  obtain ⟨v, hv, rv⟩ := rr.get hd
  refine ⟨⟨vs, v, q, hv⟩, fun w H'' y => ?_⟩
  obtain ⟨e, y⟩ := y
  subst e
  have z := y vs q
  rw [hv] at z
  cases z
  exact ⟨φ', Ext.refl, r, rv⟩
theorem it_tup {a : Addr} {lk : Lk} (h : SrcOk K φ n H true a ds lk) : ItOk K (Itt K a) φ n H ds lk := by
  intro φ' s' H' x r l i
  obtain ⟨vs, q, rr⟩ := h φ' s' H' x r l
  refine ⟨fun hi => ⟨vs, q, by rw [rr.length]; exact hi⟩, fun d hd => ?_⟩
  obtain ⟨v, hv, rv⟩ := rr.get hd
  refine ⟨⟨vs, v, q, hv⟩, fun w H'' y => ?_⟩
  obtain ⟨e, y⟩ := y
  subst e
  have z := y vs q
  rw [hv] at z
  cases z
  exact ⟨φ', Ext.refl, r, rv⟩
theorem it_range {lo : Int} {m : Nat} : ItOk K (Itr lo m) φ n H ((List.range m).map fun i => .int (lo + (i : Nat))) [] := by
  intro φ' s' H' x r l i
  refine ⟨fun hi => by rw [List.length_map, List.length_range] at hi; exact hi, fun d hd => ?_⟩
  rw [List.getElem?_map] at hd
  cases e : (List.range m)[i]? with
  | none => rw [e] at hd; cases hd
  | some j =>
    rw [e] at hd
    cases hd
    obtain ⟨h1, h2⟩ := List.getElem?_eq_some_iff.mp e
    rw [List.getElem_range] at h2
    subst h2
    refine ⟨by rw [List.length_range] at h1; exact h1, fun w H'' y => ?_⟩
    obtain ⟨e1, e2⟩ := y
    subst e1
    subst e2
    exact ⟨φ', Ext.refl, r, .int _⟩
theorem zip_get {xs ys : List D} {i : Nat} {d : D} (h : ((xs.zip ys).map fun p => D.tup [p.1, p.2])[i]? = some d) : ∃ x y, xs[i]? = some x ∧ ys[i]? = some y ∧ d = .tup [x, y] := by
  rw [List.getElem?_map] at h
  cases e : (xs.zip ys)[i]? with
  | none => rw [e] at h; cases h
  | some p =>
    rw [e] at h
    cases h
    obtain ⟨h1, h2⟩ := List.getElem?_zip_eq_some.mp e
    exact ⟨p.1, p.2, h1, h2, rfl⟩
theorem zip_pair {φ' : Ph} {s' : S} {H' H'' : Hp} {T : Addr} {x y : V} {dx dy : D} {w : V} (r : Rel K φ' s' H') (hw : w = .ref T) (hT : H' T = none) (hH : H'' = upd H' T (.tup [x, y])) (rx : RV K φ' s'.length H' x dx) (ry : RV K φ' s'.length H' y dy) :
    ∃ φ'', Ext φ' s'.length H' φ'' s'.length H'' ∧ Rel K φ'' s' H'' ∧ RV K φ'' s'.length H'' w (.tup [dx, dy]) := by
  subst hw
  subst hH
  have x1 : Ext φ' s'.length H' φ' s'.length (upd H' T (.tup [x, y])) := Ext.obj hT
  exact ⟨φ', x1, r.obj hT, .tup (SqT.of upd_same) (.cons (rx.mono r.cm x1) (.cons (ry.mono r.cm x1) .nil))⟩
theorem it_zip {a b : Addr} {xs ys : List D} {l1 l2 : Lk} (h1 : SrcOk K φ n H false a xs l1) (h2 : SrcOk K φ n H false b ys l2) : ItOk K (Itz K a b) φ n H ((xs.zip ys).map fun p => .tup [p.1, p.2]) (l1 ++ l2) := by
  intro φ' s' H' x r l i
  rw [lkOk_app, Bool.and_eq_true] at l
  obtain ⟨vs, q, rr⟩ := h1 φ' s' H' x r l.1
  obtain ⟨ws, q', rr'⟩ := h2 φ' s' H' x r l.2
  refine ⟨fun hi => ⟨vs, ws, q, q', ?_⟩, fun d hd => ?_⟩
  · rw [rr.length, rr'.length]
    rw [List.length_map, List.length_zip] at hi
    omega
  · obtain ⟨dx, dy, e1, e2, rfl⟩ := zip_get hd
    obtain ⟨v, hv, rv⟩ := rr.get e1
    obtain ⟨u, hu, ru⟩ := rr'.get e2
    refine ⟨⟨vs, ws, v, u, q, q', hv, hu⟩, fun w H'' y => ?_⟩
    obtain ⟨T, x0, y0, ew, eT, eH, z1, z2⟩ := y
    have z1 := z1 vs q
    have z2 := z2 ws q'
    rw [hv] at z1
    rw [hu] at z2
    cases z1
    cases z2
    exact zip_pair r ew eT eH rv ru
theorem it_zipT {a b : Addr} {xs ys : List D} {l1 l2 : Lk} (h1 : SrcOk K φ n H true a xs l1) (h2 : SrcOk K φ n H true b ys l2) : ItOk K (RZ.ItzT K a b) φ n H ((xs.zip ys).map fun p => .tup [p.1, p.2]) (l1 ++ l2) := by
  intro φ' s' H' x r l i
  rw [lkOk_app, Bool.and_eq_true] at l
  obtain ⟨vs, q, rr⟩ := h1 φ' s' H' x r l.1
  obtain ⟨ws, q', rr'⟩ := h2 φ' s' H' x r l.2
  refine ⟨fun hi => ⟨vs, ws, q, q', ?_⟩, fun d hd => ?_⟩
  · rw [rr.length, rr'.length]
    rw [List.length_map, List.length_zip] at hi
    omega
  · obtain ⟨dx, dy, e1, e2, rfl⟩ := zip_get hd
    obtain ⟨v, hv, rv⟩ := rr.get e1
    obtain ⟨u, hu, ru⟩ := rr'.get e2
    refine ⟨⟨vs, ws, v, u, q, q', hv, hu⟩, fun w H'' y => ?_⟩
    obtain ⟨T, x0, y0, ew, eT, eH, z1, z2⟩ := y
    have z1 := z1 vs q
    have z2 := z2 ws q'
    rw [hv] at z1
    rw [hu] at z2
    cases z1
    cases z2
    exact zip_pair r ew eT eH rv ru
theorem it_enum {a : Addr} {lk : Lk} (h : SrcOk K φ n H false a ds lk) : ItOk K (Ite K a) φ n H (ds.zipIdx.map fun p => .tup [.int (p.2 : Nat), p.1]) lk := by
  intro φ' s' H' x r l i
  obtain ⟨vs, q, rr⟩ := h φ' s' H' x r l
  refine ⟨fun hi => ⟨vs, q, by rw [rr.length]; simpa using hi⟩, fun d hd => ?_⟩
  rw [List.getElem?_map, List.getElem?_zipIdx] at hd
  cases e : ds[i]? with
  | none => rw [e] at hd; cases hd
  | some d0 =>
    rw [e] at hd
    cases hd
    obtain ⟨v, hv, rv⟩ := rr.get e
    refine ⟨⟨vs, v, q, hv⟩, fun w H'' y => ?_⟩
    obtain ⟨T, x0, ew, eT, eH, z1⟩ := y
    have z1 := z1 vs q
    rw [hv] at z1
    cases z1
    have hi : RV K φ' s'.length H' (.int (i : Nat)) (.int ((0 + i : Nat) : Int)) := by rw [Nat.zero_add]; exact .int _
    exact zip_pair r ew eT eH hi rv
end

/-! ### readings of iterables -/
abbrev IR := Env → S → Option ((List D × Lk) × S)
def tI (K : PySem.W.Frag) (r : IR) : TI := fun σ H R => ∃ φ env s ds lk s', Rel K φ s H ∧ EnvR K φ s.length H σ env ∧ r env s = some ((ds, lk), s') ∧
  ∀ J H' φ', Ext φ s.length H φ' s'.length H' → Rel K φ' s' H' → lkOk lk s' = true → ItOk K J φ' s'.length H' ds lk → R J H'
section
variable {X : Cx} {e a b c tg : Expr} {pos : Pos} {ra rb rc re : ER}
theorem pi_imp {iter : Expr} {t t' : TI} (h : PI X tg iter t) (k : ∀ σ H Q, t' σ H Q → t σ H Q) : PI X tg iter t' := ⟨fun pins s σ H Q I hw => h.run pins s σ H Q I (k σ H Q hw)⟩
def iSeq (K : PySem.W.Frag) (tl : TE) : TI := fun σ H R => tl σ H fun x H1 => ∃ a, x = .ref a ∧ (((∃ xs, SqL K H1 a xs) ∧ R (Itl K a) H1) ∨ ((∃ xs, SqT K H1 a xs) ∧ R (Itt K a) H1))
theorem pi_seq {l : Expr} {tl : TE} (hl : PE X l tl) : PI X tg l (iSeq X.K tl) := by
  refine ⟨fun pins s σ H R I h => ?_⟩
  refine thn (hl.run pins s σ H _ I h) fun v s1 ⟨x, H1, I1, r1, q1⟩ => ?_
  obtain ⟨a, e, q1⟩ := q1
  subst e
  cases r1
  rcases q1 with ⟨⟨xs, hq⟩, q⟩ | ⟨⟨xs, hq⟩, q⟩
  · obtain ⟨its, rv, p, hz⟩ := I1.list hq
    refine wpAny_pyIter_list p.isList ?_
    refine ⟨s1.heap.objs.size, [s1.heap.objs.size], _, _, H1, rfl, I1.kept (t' := s1.toks) fun b o e => Heap.get?_push_of_some _ e, turn_list a _, ⟨_, Heap.get?_push_size _ rfl, rfl, rfl⟩, fun b hb => ?_, q⟩
    have e : b = s1.heap.objs.size := by simpa using hb
    subst e
    exact I1.fpOk (Nat.le_refl _) (I1.hok.fresh (Nat.le_refl _))
  · obtain ⟨its, rv, p, hz⟩ := I1.tuple hq
    refine wpAny_pyIter_tuple (show s1.heap.IsTuple a its.toArray from p) ?_
    refine ⟨s1.heap.objs.size, [s1.heap.objs.size], _, _, H1, rfl, I1.kept (t' := s1.toks) fun b o e => Heap.get?_push_of_some _ e, turn_tuple a _, ⟨_, Heap.get?_push_size _ rfl, rfl, rfl⟩, fun b hb => ?_, q⟩
    have e : b = s1.heap.objs.size := by simpa using hb
    subst e
    exact I1.fpOk (Nat.le_refl _) (I1.hok.fresh (Nat.le_refl _))
theorem si_seq (he : PE X e (tE X.K re)) : PI X tg e (tI X.K fun env s => bd (re env s) fun x s1 => (srcD s1 x).map fun p => ((p.2.1, p.2.2), s1)) := by
  refine pi_imp (pi_seq he) fun σ H R ⟨φ, env, s, ds, lk, s', r, e, h, q⟩ => ?_
  obtain ⟨x, s1, h1, h⟩ := bd_inv h
  cases hs : srcD s1 x with
  | none => rw [hs] at h; cases h
  | some p =>
    obtain ⟨tu, es, l⟩ := p
    rw [hs] at h
    cases h
    refine tE_go r e h1 fun v H1 φ1 x1 r1 e1 hv => ?_
    obtain ⟨a, ea, so, lo⟩ := src_ok r1 hv hs
    refine ⟨a, ea, ?_⟩
    cases tu with
    | true =>
      obtain ⟨vs, z, _⟩ := so φ1 _ H1 Ext.refl r1 lo
      exact .inr ⟨⟨vs, z⟩, q _ _ _ x1 r1 lo (it_tup so)⟩
    | false =>
      obtain ⟨vs, z, _⟩ := so φ1 _ H1 Ext.refl r1 lo
      exact .inl ⟨⟨vs, z⟩, q _ _ _ x1 r1 lo (it_list so)⟩
theorem si_rng {p : Pos} (hg : Gl X "range") (hm : X.mg "range" = none) (ha : PE X a (tE X.K ra)) (hs : starEach [a] X.env = [(false, eval a X.env)]) :
    PI X tg (.Call (.Name "range" p) [a] [] pos) (tI X.K fun env s => bd (ra env s) fun x s1 => match x with
      | .int n => if -(2 ^ 62) ≤ n ∧ n < 2 ^ 62 then some (((List.range n.toNat).map fun i => .int (i : Nat), []), s1) else none
      | _ => none) := by
  refine pi_imp (pi_range1 hg hm (sa_cons ha sa_nil hs) hs) fun σ H R ⟨φ, env, s, ds, lk, s', r, e, h, q⟩ => ?_
  obtain ⟨x, s1, h1, h⟩ := bd_inv h
  cases x with
  | int n =>
    by_cases hn : -(2 ^ 62) ≤ n ∧ n < 2 ^ 62
    · have h : (if -(2 ^ 62) ≤ n ∧ n < 2 ^ 62 then some (((List.range n.toNat).map fun i => D.int (i : Nat), ([] : Lk)), s1) else none) = some ((ds, lk), s') := h
      rw [if_pos hn] at h
      cases h
      have h2 : (bd (ra env s) fun x s1 => bd (some ([], s1)) fun xs s2 => some (x :: xs, s2)) = some ([D.int n], s') := by rw [h1]; rfl
      refine tA_go r e h2 fun vs H1 φ1 x1 r1 e1 hv => ?_
      cases hv with
      | cons hv hr =>
        cases hv
        cases hr
        refine ⟨n, rfl, hn.1, hn.2, q _ _ _ x1 r1 rfl ?_⟩
        have z : ItOk X.K (Itr 0 n.toNat) φ1 s'.length H1 ((List.range n.toNat).map fun i => .int ((0 : Int) + (i : Nat))) [] := it_range
        simpa using z
    · have h : (if -(2 ^ 62) ≤ n ∧ n < 2 ^ 62 then some (((List.range n.toNat).map fun i => D.int (i : Nat), ([] : Lk)), s1) else none) = some ((ds, lk), s') := h
      rw [if_neg hn] at h
      cases h
  | _ => cases h
theorem si_rng2 {p : Pos} (hg : Gl X "range") (hm : X.mg "range" = none) (ha : PE X a (tE X.K ra)) (hb : PE X b (tE X.K rb)) (hs : starEach [a, b] X.env = [(false, eval a X.env), (false, eval b X.env)]) (hs2 : starEach [b] X.env = [(false, eval b X.env)]) :
    PI X tg (.Call (.Name "range" p) [a, b] [] pos) (tI X.K fun env s => bd (ra env s) fun x s1 => bd (rb env s1) fun y s2 => match x, y with
      | .int i, .int j => if -(2 ^ 62) ≤ i ∧ i < 2 ^ 62 ∧ -(2 ^ 62) ≤ j ∧ j < 2 ^ 62 then some (((List.range (j - i).toNat).map fun k => .int (i + (k : Nat)), []), s2) else none
      | _, _ => none) := by
  refine pi_imp (pi_range2 hg hm (sa_cons ha (sa_cons hb sa_nil hs2) (by rw [hs, hs2])) hs hs2) fun σ H R ⟨φ, env, s, ds, lk, s', r, e, h, q⟩ => ?_
  obtain ⟨x, s1, h1, h⟩ := bd_inv h
  obtain ⟨y, s2, h2, h⟩ := bd_inv h
  cases x with
  | int i =>
    cases y with
    | int j =>
      have h : (if -(2 ^ 62) ≤ i ∧ i < 2 ^ 62 ∧ -(2 ^ 62) ≤ j ∧ j < 2 ^ 62 then some (((List.range (j - i).toNat).map fun k => D.int (i + (k : Nat)), ([] : Lk)), s2) else none) = some ((ds, lk), s') := h
      by_cases hn : -(2 ^ 62) ≤ i ∧ i < 2 ^ 62 ∧ -(2 ^ 62) ≤ j ∧ j < 2 ^ 62
      · rw [if_pos hn] at h
        cases h
        have h3 : (bd (ra env s) fun x s1 => bd (bd (rb env s1) fun x s1 => bd (some ([], s1)) fun xs s2 => some (x :: xs, s2)) fun xs s2 => some (x :: xs, s2)) = some ([D.int i, D.int j], s') := by rw [h1, bd_some, h2]; rfl
        refine tA_go r e h3 fun vs H1 φ1 x1 r1 e1 hv => ?_
        cases hv with
        | cons hv hr =>
          cases hv
          cases hr with
          | cons hv hr =>
            cases hv
            cases hr
            exact ⟨i, j, rfl, hn, q _ _ _ x1 r1 rfl it_range⟩
      · rw [if_neg hn] at h
        cases h
    | _ => cases h
  | _ => cases h
theorem si_zip {p tpos : Pos} {elts : List Expr} {kk : Nat} (hg : Gl X "zip") (hm : X.mg "zip" = none) (ha : PE X a (tE X.K ra)) (hb : PE X b (tE X.K rb))
    (hs : starEach [a, b] X.env = (false, eval a X.env) :: starEach [b] X.env) (hs2 : starEach [b] X.env = [(false, eval b X.env)]) (hpl : (backTo pos (starEach [b] X.env)).any (·.1) = false) :
    PI X (.Tuple elts kk tpos) (.Call (.Name "zip" p) [a, b] [] pos) (tI X.K fun env s => bd (ra env s) fun x s1 => bd (rb env s1) fun y s2 => match srcD s2 x, srcD s2 y with
    | some (t1, xs, l1), some (t2, ys, l2) => if t1 = t2 then some (((xs.zip ys).map fun p => .tup [p.1, p.2], l1 ++ l2), s2) else none
    | _, _ => none) := by
  refine pi_imp (RZ.pi_zipA hg hm (sa_cons ha (sa_cons hb sa_nil hs2) hs) hs hpl) fun σ H R ⟨φ, env, s, ds, lk, s', r, e, h, q⟩ => ?_
  obtain ⟨x, s1, h1, h⟩ := bd_inv h
  obtain ⟨y, s2, h2, h⟩ := bd_inv h
  have h3 : (bd (ra env s) fun x s1 => bd (bd (rb env s1) fun x s1 => bd (some ([], s1)) fun xs s2 => some (x :: xs, s2)) fun xs s2 => some (x :: xs, s2)) = some ([x, y], s2) := by rw [h1, bd_some, h2]; rfl
  cases hx : srcD s2 x with
  | none => rw [hx] at h; cases h
  | some px =>
    obtain ⟨t1, xs, l1⟩ := px
    cases hy : srcD s2 y with
    | none => rw [hx, hy] at h; cases h
    | some py =>
      obtain ⟨t2, ys, l2⟩ := py
      rw [hx, hy] at h
      have h : (if t1 = t2 then some (((xs.zip ys).map fun p => D.tup [p.1, p.2], l1 ++ l2), s2) else none) = some ((ds, lk), s') := h
      by_cases ht : t1 = t2
      · rw [if_pos ht] at h
        cases h
        subst ht
        refine tA_go r e h3 fun vs H1 φ1 x1 r1 e1 hv => ?_
        obtain ⟨v, w, rfl, rv, rw'⟩ := rvs2 hv
        obtain ⟨a', ea, so, lo⟩ := src_ok r1 rv hx
        obtain ⟨b', eb, so', lo'⟩ := src_ok r1 rw' hy
        subst ea
        subst eb
        have lo2 : lkOk (l1 ++ l2) s' = true := by rw [lkOk_app, lo, lo']; rfl
        obtain ⟨vs1, z1, _⟩ := so φ1 _ H1 Ext.refl r1 lo
        obtain ⟨vs2, z2, _⟩ := so' φ1 _ H1 Ext.refl r1 lo'
        refine ⟨a', b', vs1, vs2, rfl, ?_⟩
        cases t1 with
        | true => exact .inr ⟨z1, z2, q _ _ _ x1 r1 lo2 (it_zipT so so')⟩
        | false => exact .inl ⟨z1, z2, q _ _ _ x1 r1 lo2 (it_zip so so')⟩
      · rw [if_neg ht] at h
        cases h
theorem si_enum {p tpos : Pos} {elts : List Expr} {kk : Nat} (hg : Gl X "enumerate") (hm : X.mg "enumerate" = none) (ha : PE X a (tE X.K ra)) (hs : starEach [a] X.env = [(false, eval a X.env)]) :
    PI X (.Tuple elts kk tpos) (.Call (.Name "enumerate" p) [a] [] pos) (tI X.K fun env s => bd (ra env s) fun x s1 => match srcD s1 x with
    | some (false, ds, lk) => some ((ds.zipIdx.map fun p => .tup [.int (p.2 : Nat), p.1], lk), s1)
    | _ => none) := by
  refine pi_imp (pi_enum hg hm (sa_cons ha sa_nil hs) hs) fun σ H R ⟨φ, env, s, ds, lk, s', r, e, h, q⟩ => ?_
  obtain ⟨x, s1, h1, h⟩ := bd_inv h
  have h3 : (bd (ra env s) fun x s1 => bd (some ([], s1)) fun xs s2 => some (x :: xs, s2)) = some ([x], s1) := by rw [h1]; rfl
  cases hx : srcD s1 x with
  | none => rw [hx] at h; cases h
  | some px =>
    obtain ⟨t1, xs, l1⟩ := px
    rw [hx] at h
    cases t1 with
    | true => cases h
    | false =>
      cases h
      refine tA_go r e h3 fun vs H1 φ1 x1 r1 e1 hv => ?_
      obtain ⟨v, rfl, rv⟩ := rvs1 hv
      obtain ⟨a', ea, so, lo⟩ := src_ok r1 rv hx
      subst ea
      obtain ⟨vs1, z1, _⟩ := so φ1 _ H1 Ext.refl r1 lo
      exact ⟨a', vs1, rfl, z1, q _ _ _ x1 r1 lo (it_enum so)⟩
end
end Kp

/-! Kp, part I: targets; comprehensions. Own work. -/
namespace Kp
open PySem PySem.Spec PyProof.Rows L2

/-! ### targets -/
mutual
def slots : Tg → List Nat
  | .nm i => [i]
  | .tp _ ts => slotss ts
def slotss : List Tg → List Nat
  | [] => []
  | t :: ts => slots t ++ slotss ts
end
/-- alike but at these places -/
def Near (is : List Nat) (σ σ' : L2.St) : Prop := σ'.length = σ.length ∧ ∀ i, i ∉ is → σ'[i]? = σ[i]?
theorem Near.refl {is : List Nat} {σ : L2.St} : Near is σ σ := ⟨rfl, fun _ _ => rfl⟩
theorem Near.trans {is js : List Nat} {σ σ1 σ2 : L2.St} (a : Near is σ σ1) (b : Near js σ1 σ2) : Near (is ++ js) σ σ2 :=
  ⟨b.1.trans a.1, fun i hi => by
    rw [List.mem_append, not_or] at hi
    rw [b.2 i hi.2, a.2 i hi.1]⟩
theorem Near.set {σ : L2.St} {i : Nat} {v : Option V} : Near [i] σ (σ.set i v) :=
  ⟨List.length_set, fun j hj => List.getElem?_set_ne (fun e => hj (by simp [e]))⟩
theorem wipe_in {σ : L2.St} {i : Nat} : ∀ {vs : List Nat}, i ∈ vs → i < σ.length → (wipe σ vs)[i]? = some none
  | v :: vs, h, hl => by
    unfold wipe
    by_cases e : v = i
    · subst e
      exact List.getElem?_set_self (by rw [wipe_length]; exact hl)
    · rw [List.getElem?_set_ne e]
      rcases List.mem_cons.mp h with z | z
      · exact absurd z.symm e
      · exact wipe_in z hl
theorem Near.wipe {is vs : List Nat} {σ σ' : L2.St} (a : Near is σ σ') (h : ∀ i ∈ is, i ∈ vs) : L2.wipe σ' vs = L2.wipe σ vs := by
  refine List.ext_getElem? fun i => ?_
  by_cases hi : i ∈ vs
  · by_cases hl : i < σ.length
    · rw [wipe_in hi hl, wipe_in hi (by rw [a.1]; exact hl)]
    · rw [List.getElem?_eq_none (by rw [wipe_length, a.1]; omega), List.getElem?_eq_none (by rw [wipe_length]; omega)]
  · rw [wipe_out hi, wipe_out hi, a.2 i fun z => hi (h i z)]
theorem wipe_wipe {σ : L2.St} {vs : List Nat} : L2.wipe (L2.wipe σ vs) vs = L2.wipe σ vs := by
  refine List.ext_getElem? fun i => ?_
  by_cases hi : i ∈ vs
  · by_cases hl : i < σ.length
    · rw [wipe_in hi (by rw [wipe_length]; exact hl), wipe_in hi hl]
    · rw [List.getElem?_eq_none (by rw [wipe_length, wipe_length]; omega), List.getElem?_eq_none (by rw [wipe_length]; omega)]
  · rw [wipe_out hi]
def tG (K : PySem.W.Frag) (t : Tg) : TG := fun v σ H Q => ∃ φ env s d env', Rel K φ s H ∧ EnvR K φ s.length H σ env ∧ RV K φ s.length H v d ∧ asgT t d env = some env' ∧ ∀ σ', EnvR K φ s.length H σ' env' → Near (slots t) σ σ' → Q σ' H
def tGs (K : PySem.W.Frag) (ts : List Tg) : TGs := fun vs σ H Q => ∃ φ env s ds env', Rel K φ s H ∧ EnvR K φ s.length H σ env ∧ RVs K φ s.length H vs ds ∧ asgTs ts ds env = some env' ∧ ∀ σ', EnvR K φ s.length H σ' env' → Near (slotss ts) σ σ' → Q σ' H
section
variable {X : Cx} {pos : Pos}
theorem pg_imp {e : Expr} {t t' : TG} (h : PG X e t) (k : ∀ v σ H Q, t' v σ H Q → t v σ H Q) : PG X e t' := ⟨fun pins s σ H v u Q I r hw => h.run pins s σ H v u Q I r (k v σ H Q hw)⟩
theorem pgs_imp {es : List Expr} {t t' : TGs} (h : PGs X es t) (k : ∀ v σ H Q, t' v σ H Q → t v σ H Q) : PGs X es t' := ⟨fun pins s σ H v u Q I r hw => h.run pins s σ H v u Q I r (k v σ H Q hw)⟩
theorem sg_name {i : Nat} {x : Str} (hN : X.N.Nodup) (hi : X.N[i]? = some x) (hx : Loc X.env.scope x) (hf : X.fn x = true ∨ X.env.scope.names.lookup x = some .local) : PG X (.Name x pos) (tG X.K (.nm i)) :=
  pg_imp (pg_name hN hi hx hf) fun v σ H Q ⟨φ, env, s, d, env', r, e, hv, ha, q⟩ => by
    cases ha
    exact q _ (e.set hv i) Near.set
theorem sgs_nil : PGs X [] (tGs X.K []) := pgs_imp pgs_nil fun v σ H Q ⟨φ, env, s, ds, env', r, e, hv, ha, q⟩ => by
  cases hv with
  | nil => cases ha; exact ⟨rfl, q _ e Near.refl⟩
  | cons _ _ => cases ha
theorem sgs_cons {e : Expr} {es : List Expr} {t : Tg} {ts : List Tg} (h1 : PG X e (tG X.K t)) (h2 : PGs X es (tGs X.K ts)) (hs : (assignEach (e :: es) X.env).map (·.2) = assign e X.env :: (assignEach es X.env).map (·.2)) : PGs X (e :: es) (tGs X.K (t :: ts)) :=
  pgs_imp (pgs_cons h1 h2 hs) fun v σ H Q ⟨φ, env, s, ds, env', r, e, hv, ha, q⟩ => by
    cases ds with
    | nil => cases ha
    | cons d ds =>
      obtain ⟨v0, vs0, rfl, hv, hr⟩ : ∃ v0 vs0, v = v0 :: vs0 ∧ RV X.K φ s.length H v0 d ∧ RVs X.K φ s.length H vs0 ds := by
        cases hv with
        | cons h1 h2 => exact ⟨_, _, rfl, h1, h2⟩
      have ha : (asgT t d env).bind (asgTs ts ds) = some env' := ha
      cases h3 : asgT t d env with
      | none => rw [h3] at ha; cases ha
      | some env1 =>
        rw [h3] at ha
        refine ⟨_, _, rfl, φ, env, s, d, env1, r, e, hv, h3, fun σ' e' n' => ?_⟩
        exact ⟨φ, env1, s, ds, env', r, e', hr, ha, fun σ2 e2 n2 => q σ2 e2 (n'.trans n2)⟩
theorem sg_tup {es : List Expr} {k : Nat} {ts : List Tg} {n : Nat} (hc : X.calm = true) (h : PGs X es (tGs X.K ts)) (hn : (assignEach es X.env).length = n) (hst : (assignEach es X.env).findIdx? (·.1) = none) : PG X (.Tuple es k pos) (tG X.K (.tp n ts)) :=
  pg_imp (pg_tup hc h hn hst) fun v σ H Q ⟨φ, env, s, d, env', r, e, hv, ha, q⟩ => by
    cases d with
    | tup ds =>
      obtain ⟨a, vs, rfl, q0, rr⟩ : ∃ a vs, v = .ref a ∧ SqT X.K H a vs ∧ RVs X.K φ s.length H vs ds := by
        cases hv with
        | tup h1 h2 => exact ⟨_, _, rfl, h1, h2⟩
      have ha : (if ds.length = n then asgTs ts ds env else none) = some env' := ha
      by_cases hl : ds.length = n
      · rw [if_pos hl] at ha
        exact ⟨a, vs, rfl, q0, by rw [rr.length]; exact hl, φ, env, s, ds, env', r, e, rr, ha, q⟩
      · rw [if_neg hl] at ha
        cases ha
    | _ => cases ha
end

/-! ### tests of a clause -/
def tQ (K : PySem.W.Frag) (r : Env → S → Option (Bool × S)) : TT := fun σ H Q => ∃ φ env s b s', Rel K φ s H ∧ EnvR K φ s.length H σ env ∧ r env s = some (b, s') ∧ PostT K φ s.length H b s' Q
theorem pts_imp {X : Cx} {es : List Expr} {t t' : TT} (h : PTs X es t) (k : ∀ σ H Q, t' σ H Q → t σ H Q) : PTs X es t' := ⟨fun pins s σ H Q I hw => h.run pins s σ H Q I (k σ H Q hw)⟩
theorem sq_nil {X : Cx} : PTs X [] (tQ X.K fun _ s => some (true, s)) := pts_imp pts_nil fun σ H Q ⟨φ, env, s, b, s', r, e, h, q⟩ => by
  cases h
  exact q H φ Ext.refl r
theorem sq_one {X : Cx} {c : Expr} {rc : ER} (h : PT X c (tT X.K rc)) : PTs X [c] (tQ X.K fun env s => bd (rc env s) fun x s1 => match truD s1 x with
    | some true => some (true, s1)
    | some false => some (false, s1)
    | none => none) := pts_imp (pts_one h) fun σ H Q ⟨φ, env, s, b, s', r, e, h, q⟩ => by
  obtain ⟨x, s1, h1, h⟩ := bd_inv h
  cases hb : truD s1 x with
  | none => rw [hb] at h; cases h
  | some k =>
    rw [hb] at h
    cases k with
    | true => cases h; exact ⟨φ, env, s, x, _, true, r, e, h1, hb, q⟩
    | false => cases h; exact ⟨φ, env, s, x, _, false, r, e, h1, hb, q⟩

/-! ### a list that is being filled -/
def moreF (φ : Ph) (p : Addr) : Ph := ⟨φ.f, fun a => φ.F a ∨ a = p⟩
section
variable {K : PySem.W.Frag} {φ φ1 : Ph} {n n1 : Nat} {H H1 : Hp} {s s1 : S} {d : D} {ds : List D} {p : Addr} {o : HO}
theorem Ext.laidF (hp : H p = none) : Ext φ n H (moreF φ p) n (upd H p o) :=
  ⟨Nat.le_refl _, fun _ _ => rfl, fun i h1 h2 => absurd h1 (by omega), fun b u hb _ => by rw [upd_ne (ne_of_none hb hp)]; exact hb, fun _ h => .inl h, fun a h => h.imp id fun e => by rw [e]; exact hp⟩
theorem Rel.laidF (r : Rel K φ s H) (hp : H p = none) (hm : Mut (some o)) : Rel K (moreF φ p) s (upd H p o) where
  inj := r.inj
  cell := fun i c e => by
    have h := r.cell i c e
    cases c with
    | lst ds =>
      obtain ⟨vs, h1, h2⟩ := h
      exact ⟨vs, by show upd H p o (φ i) = _; rw [upd_ne (ne_of_none h1 hp)]; exact h1, h2.mono r.cm (Ext.laidF hp)⟩
    | dct _ => exact h.elim
    | ins _ _ => exact h.elim
  fo := fun a h => by
    rcases h with h | h
    · exact ⟨mut_new hp (r.fo a h).1, (r.fo a h).2⟩
    · subst h
      refine ⟨by rw [upd_same]; exact hm, fun i hi e => ?_⟩
      have z := r.cm i hi
      have e : φ i = a := e
      rw [e, hp] at z
      exact z
theorem Ext.updN (x : Ext φ n H φ1 n1 H1) (hp : H p = none) : Ext φ n H φ1 n1 (upd H1 p o) :=
  ⟨x.le, x.old, x.new, fun a u hu hn => by rw [upd_ne (ne_of_none hu hp)]; exact x.keep a u hu hn, x.fk, x.ff⟩
theorem Ext.at (x : Ext φ n H φ1 n1 H1) (hm : ∀ i, i < n → φ i ≠ p) (h : H p = some o) : H1 p = some o := x.keep p o h hm
mutual
theorem RV.toCell {F : Addr → Prop} (hF : ∀ a, F a → φ.F a) (hp : φ.F p) (hn : ¬ F p) : ∀ (d : D) {v : V}, RV K φ n H v d → RV K (addC (lessF φ F) n p) (n + 1) H v d
  | .non, _, h => by cases h; exact .non
  | .bl b, _, h => by cases h; exact .bl b
  | .int i, _, h => by cases h; exact .int i
  | .str y, _, h => by cases h with
    | str _ q => exact .str y q
  | .ref i, _, h => by cases h with
    | ref _ q =>
      have e : (addC (lessF φ F) n p) i = φ i := addC_ne (by omega)
      rw [← e]
      exact RV.ref i (by omega)
  | .tup ds, _, h => by cases h with
    | tup q r => exact .tup q (RVs.toCell hF hp hn ds r)
  | .lst ds, _, h => by cases h with
    | lst q nc nf r =>
      refine .lst q (fun i hi e => ?_) (fun e => nf (hF _ e)) (RVs.toCell hF hp hn ds r)
      by_cases h1 : i = n
      · subst h1
        rw [addC_eq] at e
        exact nf (by rw [← e]; exact hp)
      · rw [addC_ne h1] at e
        exact nc i (by omega) e
  | .rol ds, _, h => by cases h with
    | rol q r => exact .rol q (RVs.toCell hF hp hn ds r)
theorem RVs.toCell {F : Addr → Prop} (hF : ∀ a, F a → φ.F a) (hp : φ.F p) (hn : ¬ F p) : ∀ (ds : List D) {vs : List V}, RVs K φ n H vs ds → RVs K (addC (lessF φ F) n p) (n + 1) H vs ds
  | [], _, h => by cases h; exact .nil
  | d :: ds, _, h => by cases h with
    | cons h r => exact .cons (RV.toCell hF hp hn d h) (RVs.toCell hF hp hn ds r)
end
theorem Rel.toCell {F : Addr → Prop} {vs : List V} (r : Rel K φ s H) (hF : ∀ a, F a → φ.F a) (hp : φ.F p) (hn : ¬ F p) (e : H p = some (.lst vs)) (hv : RVs K φ s.length H vs ds) : Rel K (addC (lessF φ F) s.length p) (s ++ [.lst ds]) H where
  inj := fun i j hi hj e => by
    rw [List.length_append] at hi hj
    simp only [List.length_cons, List.length_nil] at hi hj
    by_cases h1 : i = s.length
    · by_cases h2 : j = s.length
      · omega
      · rw [h1, addC_eq, addC_ne h2] at e
        exact absurd e.symm ((r.fo p hp).2 j (by omega))
    · by_cases h2 : j = s.length
      · rw [h2, addC_eq, addC_ne h1] at e
        exact absurd e ((r.fo p hp).2 i (by omega))
      · rw [addC_ne h1, addC_ne h2] at e
        exact r.inj i j (by omega) (by omega) e
  cell := fun i c q => by
    rw [List.length_append]
    by_cases h1 : i < s.length
    · rw [List.getElem?_append_left h1] at q
      have h := r.cell i c q
      cases c with
      | lst es =>
        obtain ⟨ws, q1, q2⟩ := h
        exact ⟨ws, by rw [addC_ne (by omega)]; exact q1, q2.toCell hF hp hn⟩
      | dct _ => exact h.elim
      | ins _ _ => exact h.elim
    · have h2 : i = s.length := by
        have := (List.getElem?_eq_some_iff.mp q).1
        rw [List.length_append] at this
        simp at this
        omega
      subst h2
      rw [List.getElem?_append_right (Nat.le_refl _)] at q
      simp at q
      subst q
      exact ⟨vs, by rw [addC_eq]; exact e, hv.toCell hF hp hn⟩
  fo := fun a h => ⟨(r.fo a (hF a h)).1, fun i hi e => by
    rw [List.length_append] at hi
    simp only [List.length_cons, List.length_nil] at hi
    by_cases h1 : i = s.length
    · subst h1
      rw [addC_eq] at e
      subst e
      exact hn h
    · rw [addC_ne h1] at e
      exact (r.fo a (hF a h)).2 i (by omega) e⟩
theorem newL_len {mu : Bool} {s' : S} (h : newL mu ds s = some (d, s')) : ds.length ≤ lim := by
  unfold newL at h
  by_cases hl : ds.length ≤ lim
  · exact hl
  · rw [if_neg hl] at h; cases h
/-- the list is done: it is told to the reader -/
theorem fill_done {mu : Bool} {s' : S} {acc : List V} {Q : VK} {φ0 : Ph} {n0 : Nat} {H0 : Hp} (x0 : Ext φ0 n0 H0 φ1 s1.length H1) (r1 : Rel K φ1 s1 H1) (hp : H1 p = none)
    (x : Ext φ1 s1.length H1 φ s.length H) (r : Rel K φ s H) (hf : φ.F p) (e : H p = some (.lst acc)) (hv : RVs K φ s.length H acc ds) (h : newL mu ds s = some (d, s')) (q : PostE K φ0 n0 H0 d s' Q) : Q (.ref p) H := by
  have hn : ¬ φ1.F p := fun z => by
    have y := (r1.fo p z).1
    rw [hp] at y
    exact y
  have hF : ∀ a, φ1.F a → φ.F a := x.fk
  unfold newL at h
  rw [if_pos (newL_len h)] at h
  cases mu with
  | true =>
    simp only [if_true, Option.some.injEq, Prod.mk.injEq] at h
    obtain ⟨rfl, rfl⟩ := h
    have r2 := r.toCell hF hf hn e hv
    have x2 : Ext φ1 s1.length H1 (addC (lessF φ φ1.F) s.length p) (s ++ [C.lst ds]).length H := by
      rw [List.length_append]
      refine ⟨Nat.le_trans x.le (Nat.le_succ _), fun i hi => ?_, fun i h1 h2 => ?_, x.keep, fun _ z => z, fun _ z => .inl z⟩
      · have := x.le
        rw [addC_ne (by omega)]
        exact x.old i hi
      · by_cases hi : i = s.length
        · subst hi; rw [addC_eq]; exact hp
        · rw [addC_ne hi]; exact x.new i h1 (by simp at h2; omega)
    refine q _ _ _ (x0.trans r1.cm ?_) r2 ?_
    · exact x2
    · have z : RV K (addC (lessF φ φ1.F) s.length p) (s ++ [C.lst ds]).length H (.ref ((addC (lessF φ φ1.F) s.length p) s.length)) (.ref s.length) := .ref _ (by simp)
      rw [addC_eq] at z
      exact z
  | false =>
    simp only [Bool.false_eq_true, if_false, Option.some.injEq, Prod.mk.injEq] at h
    obtain ⟨rfl, rfl⟩ := h
    refine q _ _ (lessF φ φ1.F) (x0.trans r1.cm ?_) (r.less hF) (.lst e (r.fo p hf).2 hn (hv.less hF))
    exact ⟨x.le, x.old, x.new, x.keep, fun _ z => z, fun _ z => .inl z⟩
end
end Kp

/-! Kp, part J: comprehensions; calls. Own work. -/
namespace Kp
open PySem PySem.Spec PyProof.Rows L2

def stepL (t : Tg) (own : List Nat) (rt : Env → S → Option (Bool × S)) (re : ER) (env : Env) : D → S → Option (Option D × S) := fun d s' => match asgT t d (wipeD env own) with
  | some env' => bd (rt env' s') fun b s2 => if b then bd (re env' s2) fun x s3 => some (some x, s3) else some (none, s2)
  | none => none
theorem lc_read {K : PySem.W.Frag} {t : Tg} {ri : IR} {rt : Env → S → Option (Bool × S)} {re : ER} {vs : List Nat} {mu : Bool} (hsl : ∀ i ∈ slots t, i ∈ vs) {σ : L2.St} {H : Hp} {Q : VK} {φ : Ph} {env : Env} {s s' : S} {d : D}
    (rel : Rel K φ s H) (e : EnvR K φ s.length H σ env) (h : (bd (ri env s) fun p s1 => bd (compL (stepL t vs rt re env) p.2 p.1 s1) (newL mu)) = some (d, s')) (q : PostE K φ s.length H d s' Q) :
    tLc (tI K ri) (tG K t) (tQ K rt) (tE K re) vs σ H Q := by
  obtain ⟨p, s1, h1, h⟩ := bd_inv h
  obtain ⟨ds, lk⟩ := p
  obtain ⟨rs, s2, h2, hn⟩ := bd_inv h
  have hlen : rs.length ≤ lim := newL_len hn
  refine ⟨φ, env, s, ds, lk, s1, rel, e, h1, fun J H1 φ1 x1 r1 l1 it D hD => ?_⟩
  have e1 := e.mono rel.cm x1
  refine ⟨fun i m H' => m = ds.length - i ∧ i ≤ ds.length ∧ ∃ (φ' : Ph) (s' : S) (acc : List V) (accD rest : List Kp.D), Ext φ1 s1.length H1 φ' s'.length H' ∧ φ'.F D ∧ Rel K φ' s' H' ∧ H' D = some (.lst acc) ∧ RVs K φ' s'.length H' acc accD ∧ lkOk lk s' = true ∧
    compL (stepL t vs rt re env) lk (ds.drop i) s' = some (rest, s2) ∧ accD ++ rest = rs, ⟨ds.length, by simp, Nat.zero_le _, moreF φ1 D, s1, [], [], rs, Ext.laidF hD, .inr rfl, r1.laidF hD trivial, upd_same, .nil, l1, h2, rfl⟩, ?_⟩
  rintro i m H' ⟨rfl, hi, φ', s', acc, accD, rest, x, hF, r, hacc, racc, hlk, hc, hsum⟩
  by_cases hlt : i < ds.length
  · have hdi : ds[i]? = some ds[i] := List.getElem?_eq_getElem hlt
    obtain ⟨hgo, hy⟩ := (it φ' s' H' x r hlk i).2 _ hdi
    refine .inr ⟨hgo, fun H' => i + 1 ≤ ds.length ∧ ∃ (φ' : Ph) (s' : S) (acc : List V) (accD rest : List Kp.D), Ext φ1 s1.length H1 φ' s'.length H' ∧ φ'.F D ∧ Rel K φ' s' H' ∧ H' D = some (.lst acc) ∧ RVs K φ' s'.length H' acc accD ∧ lkOk lk s' = true ∧
      compL (stepL t vs rt re env) lk (ds.drop (i + 1)) s' = some (rest, s2) ∧ accD ++ rest = rs, fun H' p => ⟨_, by omega, rfl, p⟩, fun v H2 y => ?_⟩
    obtain ⟨φ2, x2, r2, hv⟩ := hy v H2 y
    rw [List.drop_eq_getElem_cons hlt] at hc
    obtain ⟨o, s3, hst, hc⟩ := bd_inv hc
    by_cases hl3 : lkOk lk s3 = true
    · rw [if_pos hl3] at hc
      obtain ⟨rest', s4, hc', hc⟩ := bd_inv hc
      cases hc
      unfold stepL at hst
      cases ha : asgT t ds[i] (wipeD env vs) with
      | none => rw [ha] at hst; cases hst
      | some env' =>
        rw [ha] at hst
        obtain ⟨b, s5, hrt, hst⟩ := bd_inv hst
        have e2 : EnvR K φ2 s'.length H2 (wipe σ vs) (wipeD env vs) := ((e1.mono r1.cm x).mono r.cm x2).wipe vs
        refine ⟨φ2, _, s', _, env', r2, e2, hv, ha, fun σ2 e3 near => ⟨by rw [near.wipe hsl, wipe_wipe], ?_⟩⟩
        refine ⟨φ2, env', s', b, s5, r2, e3, hrt, fun H3 φ3 x3 r3 => ?_⟩
        have f2 : φ2.F D := x2.fk D hF
        have f3 : φ3.F D := x3.fk D f2
        have a2 : H2 D = some (.lst acc) := x2.keep D _ hacc (r.fo D hF).2
        have a3 : H3 D = some (.lst acc) := x3.keep D _ a2 (r2.fo D f2).2
        have x123 : Ext φ1 s1.length H1 φ3 s5.length H3 := (x.trans r.cm x2).trans r2.cm x3
        have racc3 : RVs K φ3 s5.length H3 acc accD := (racc.mono r.cm x2).mono r2.cm x3
        cases b with
        | false =>
          refine iteF ?_
          cases hst
          exact ⟨hlt, φ3, _, acc, accD, rest', x123, f3, r3, a3, racc3, hl3, hc', by simpa using hsum⟩
        | true =>
          refine iteT ?_
          obtain ⟨dx, s6, hre, hst⟩ := bd_inv hst
          cases hst
          refine ⟨φ3, env', s5, dx, _, r3, e3.mono r2.cm x3, hre, fun w H4 φ4 x4 r4 hw => ?_⟩
          have f4 : φ4.F D := x4.fk D f3
          have a4 : H4 D = some (.lst acc) := x4.keep D _ a3 (r3.fo D f3).2
          have m4 := (r4.fo D f4).1
          have racc4 := (racc3.mono r3.cm x4).append (.cons hw .nil)
          refine ⟨acc, a4, ?_, hlt, φ4, _, acc ++ [w], accD ++ [dx], rest', (x123.trans r3.cm x4).updN hD, f4, r4.updF f4 trivial, upd_same, racc4.updF m4 f4, hl3, hc', by simpa using hsum⟩
          rw [racc.length]
          have z : accD.length < rs.length := by rw [← hsum]; simp
          have z2 := lim_le
          omega
    · rw [if_neg hl3] at hc
      cases hc
  · have hd0 : ds.drop i = [] := List.drop_eq_nil_of_le (by omega)
    rw [hd0] at hc
    cases hc
    rw [List.append_nil] at hsum
    subst hsum
    exact .inl ⟨(it φ' _ H' x r hlk i).1 (by omega), fill_done x1 r1 hD x r hF hacc racc hn q⟩
section
variable {X : Cx} {pos : Pos}
theorem se_lc {elt tg iter : Expr} {ifs : List Expr} {scope : Scope} {own : List (Str × Nat)} {t : Tg} {ri : IR} {rt : Env → S → Option (Bool × S)} {re : ER} {mu : Bool} (hc : X.calm = true) (hN : X.N.Nodup) (hi : PI X tg iter (tI X.K ri)) (ok : BlkOk X.N X.env.scope scope own)
    (hg : ∀ (s : Shared) (H : Hp) (C : Addr) (cl : List (Str × Addr)) (fp : List Addr), PG (X.blk s H scope (compEnvC scope cl C X.env) fp) tg (tG X.K t)) (ht : ∀ (s : Shared) (H : Hp) (C : Addr) (cl : List (Str × Addr)) (fp : List Addr), PTs (X.blk s H scope (compEnvC scope cl C X.env) fp) ifs (tQ X.K rt))
    (he : ∀ (s : Shared) (H : Hp) (C : Addr) (cl : List (Str × Addr)) (fp : List Addr), PE (X.blk s H scope (compEnvC scope cl C X.env) fp) elt (tE X.K re)) (hs : ∀ x, foldedSetIterable iter X.env x = pure x) (hsl : ∀ i ∈ slots t, i ∈ own.map (·.2)) :
    PE X (.ListComp elt [⟨tg, iter, ifs, 0⟩] scope pos) (tE X.K fun env s => bd (ri env s) fun p s1 => bd (compL (stepL t (own.map (·.2)) rt re env) p.2 p.1 s1) (newL mu)) :=
  pe_imp (pe_lc hc hN hi ok hg ht he hs) fun σ H Q ⟨φ, env, s, d, s', r, e, h, q⟩ => lc_read hsl r e h q

/-! ### calls of defs -/
structure KwE where
  np : Nat
  nms : List Str
  perm : List Nat
  deriving DecidableEq
def gK {α : Type} (e : KwE) (us ws : List α) : List α := if us.length = e.np ∧ ws.length = e.nms.length then ((e.perm.mapM fun j => (us ++ ws)[j]?).getD []) else []
/-- a def's promise -/
def spF (K : PySem.W.Frag) (c : List D → S → Option (D × S)) (n : Nat) : Sp := fun vs H Q _ => vs.length = n ∧ ∃ φ s ds d s', Rel K φ s H ∧ RVs K φ s.length H vs ds ∧ c ds s = some (d, s') ∧ PostE K φ s.length H d s' Q
/-- a def's name, its parameters, its calls with keywords -/
structure FnE where
  x : Str
  ps : List Str
  kws : List KwE
structure FnAt (P : Program) (w : World) (K : PySem.W.Frag) (mg : Str → Option Value) (base : Heap) (k : Nat) (f : FnE) (c : List D → S → Option (D × S)) : Prop where
  ex : ∃ fa fd, FnOk P w K mg base CX0 k fa fd f.ps (spF K c f.ps.length) ∧ mg f.x = some (.ref fa) ∧ PySem.W.keepIn K (.ref fa) = true ∧ Binds K fd f.ps [] ∧ ∀ e ∈ f.kws, KBinds K fd f.ps e.nms (gK e) (gK e)
  ari : ∀ ds s z, c ds s = some z → ds.length = f.ps.length
def CFOk (P : Program) (w : World) (K : PySem.W.Frag) (mg : Str → Option Value) (base : Heap) (fns : List FnE) : List CF → Prop
  | [] => True
  | c :: rest => (∀ (i : Nat) (f : FnE), fns[i]? = some f → FnAt P w K mg base (rest.length + 1) f (c i)) ∧ CFOk P w K mg base fns rest
theorem arity {K : PySem.W.Frag} {φ : Ph} {n : Nat} {H : Hp} {vs : List V} {ds : List D} (r : RVs K φ n H vs ds) {m : Nat} (h : ds.length = m) : vs.length = m := by rw [r.length]; exact h
theorem se_call0 {k : Nat} {f : FnE} {c : List D → S → Option (D × S)} {p : Pos} (F : FnAt X.prog X.w X.K X.mg X.base k f c) (hr : Room k X.A) (hg : Gl X f.x) (hl : ∀ ds s z, c ds s = some z → ds.length = f.ps.length) (hdb : (f.x == ("__debug__" : Str)) = false) :
    PE X (.Call (.Name f.x p) [] [] pos) (tE X.K fun _ s => c [] s) := by
  obtain ⟨fa, fd, F, hm, hk, hb, _⟩ := F.ex
  refine pe_imp (pe_call0 F hr hg hm hk hb .nil pass0 hdb) fun σ H Q ⟨φ, env, s, d, s', r, e, h, q⟩ => ?_
  exact ⟨arity (K := X.K) (φ := φ) (n := s.length) (H := H) .nil (hl _ _ _ h), φ, s, [], d, s', r, .nil, h, q⟩
theorem se_call {k : Nat} {f : FnE} {c : List D → S → Option (D × S)} {p : Pos} {a : Expr} {es : List Expr} {rr : Env → S → Option (List D × S)} (F : FnAt X.prog X.w X.K X.mg X.base k f c) (hr : Room k X.A) (hg : Gl X f.x) (hl : ∀ ds s z, c ds s = some z → ds.length = f.ps.length) (hdb : (f.x == ("__debug__" : Str)) = false)
    (ha : PA X (a :: es) (tA X.K rr)) (he : starEach (a :: es) X.env = (false, eval a X.env) :: starEach es X.env) (hpl : (backTo pos (starEach es X.env)).any (·.1) = false) :
    PE X (.Call (.Name f.x p) (a :: es) [] pos) (tE X.K fun env s => bd (rr env s) c) := by
  obtain ⟨fa, fd, F, hm, hk, hb, _⟩ := F.ex
  refine pe_imp (pe_call F hr hg hm hk hb .nil pass0 ha hdb he hpl) fun σ H Q ⟨φ, env, s, d, s', r, e, h, q⟩ => ?_
  obtain ⟨ds, s1, h1, h⟩ := bd_inv h
  refine tA_go r e h1 fun vs H1 φ1 x1 r1 e1 hv => ?_
  rw [List.append_nil]
  exact ⟨arity hv (hl _ _ _ h), φ1, s1, ds, d, s', r1, hv, h, q.ext x1 r1⟩
/-! ### keywords -/
theorem pk_imp {kws : List Keyword} {t t' : TA} (h : PK X kws t) (k : ∀ σ H Q, t' σ H Q → t σ H Q) : PK X kws t' := ⟨fun p pins s σ H Q I hw => h.run p pins s σ H Q I (k σ H Q hw)⟩
theorem sk_nil : PK X [] (tA X.K fun _ s => some ([], s)) := pk_imp pk_nil fun σ H Q ⟨φ, env, s, ds, s', r, e, h, q⟩ => by
  cases h
  exact q [] H φ Ext.refl r .nil
theorem sk_cons {a : Expr} {kws : List Keyword} {nm : Option Str} {kpos : Pos} {ra : ER} {rr : Env → S → Option (List D × S)} (ha : PE X a (tE X.K ra)) (hr : PK X kws (tA X.K rr)) :
    PK X (⟨nm, a, kpos⟩ :: kws) (tA X.K fun env s => bd (ra env s) fun x s1 => bd (rr env s1) fun xs s2 => some (x :: xs, s2)) := pk_imp (pk_cons ha hr) fun σ H Q ⟨φ, env, s, ds, s', r, e, h, q⟩ => by
  obtain ⟨x, s1, h1, h⟩ := bd_inv h
  obtain ⟨xs, s2, h2, h⟩ := bd_inv h
  cases h
  refine tE_go r e h1 fun v H1 φ1 x1 r1 e1 hv => tA_go r1 e1 h2 fun vs H2 φ2 x2 r2 e2 hvs => ?_
  exact q _ _ _ (x1.trans r1.cm x2) r2 (.cons (hv.mono r1.cm x2) hvs)
theorem mapM_rv {K : PySem.W.Frag} {φ : Ph} {n : Nat} {H : Hp} {vs : List V} {ds : List D} (r : RVs K φ n H vs ds) : ∀ {perm : List Nat} {us : List D}, perm.mapM (fun j => ds[j]?) = some us → ∃ ws, perm.mapM (fun j => vs[j]?) = some ws ∧ RVs K φ n H ws us
  | [], us, h => by cases h; exact ⟨[], rfl, .nil⟩
  | j :: perm, us, h => by
    rw [List.mapM_cons] at h
    cases h1 : ds[j]? with
    | none => rw [h1] at h; cases h
    | some d =>
      rw [h1] at h
      cases h2 : perm.mapM (fun j => ds[j]?) with
      | none =>
        have h : (do let b ← perm.mapM (fun j => ds[j]?); some (d :: b)) = some us := h
        rw [h2] at h; cases h
      | some us' =>
        have h : (do let b ← perm.mapM (fun j => ds[j]?); some (d :: b)) = some us := h
        rw [h2] at h
        cases h
        obtain ⟨v, e1, e2⟩ := r.get h1
        obtain ⟨ws, e3, e4⟩ := mapM_rv r h2
        refine ⟨v :: ws, ?_, .cons e2 e4⟩
        rw [List.mapM_cons, e1]
        show (do let b ← perm.mapM (fun j => vs[j]?); some (v :: b)) = _
        rw [e3]
        rfl
theorem gK_rv {K : PySem.W.Frag} {φ : Ph} {n : Nat} {H : Hp} {vs zs : List V} {ds es us : List D} {e : KwE} (r : RVs K φ n H vs ds) (rz : RVs K φ n H zs es) (h : permD (ds ++ es) e.perm = some us) (h1 : ds.length = e.np) (h2 : es.length = e.nms.length) : RVs K φ n H (gK e vs zs) us := by
  obtain ⟨ws, e1, e2⟩ := mapM_rv (r.append rz) h
  unfold gK
  rw [if_pos ⟨by rw [r.length]; exact h1, by rw [rz.length]; exact h2⟩, e1]
  exact e2
theorem se_callk {k : Nat} {f : FnE} {kw : KwE} {c : List D → S → Option (D × S)} {p : Pos} {a : Expr} {es : List Expr} {kws : List Keyword} {rr rk : Env → S → Option (List D × S)} (F : FnAt X.prog X.w X.K X.mg X.base k f c) (hkw : kw ∈ f.kws) (hr : Room k X.A) (hg : Gl X f.x) (hl : ∀ ds s z, c ds s = some z → ds.length = f.ps.length) (hdb : (f.x == ("__debug__" : Str)) = false)
    (ha : PA X (a :: es) (tA X.K rr)) (hk : PK X kws (tA X.K rk)) (hall : (backToKw pos (keywordEach kws X.env)).all (·.1.isSome) = true) (hks : (backToKw pos (keywordEach kws X.env)).filterMap (·.1) = kw.nms) (he : starEach (a :: es) X.env = (false, eval a X.env) :: starEach es X.env)
    (hpl : ((backTo pos (starEach (a :: es) X.env)).any (·.1) || (backToKw pos (keywordEach kws X.env)).any (·.1.isNone)) = false)
    (hn1 : ∀ env s z, rr env s = some z → z.1.length = kw.np) (hn2 : ∀ env s z, rk env s = some z → z.1.length = kw.nms.length) :
    PE X (.Call (.Name f.x p) (a :: es) kws pos) (tE X.K fun env s => bd (rr env s) fun vs s1 => bd (rk env s1) fun ws s2 => (permD (vs ++ ws) kw.perm).bind fun us => c us s2) := by
  obtain ⟨fa, fd, F, hm, hkp, hb, hkb⟩ := F.ex
  refine pe_imp (pe_callK F hr hg hm hkp (hkb kw hkw) pass0 ha hk hall hks hdb he hpl) fun σ H Q ⟨φ, env, s, d, s', r, e, h, q⟩ => ?_
  obtain ⟨ds, s1, h1, h⟩ := bd_inv h
  obtain ⟨es', s2, h2, h⟩ := bd_inv h
  cases hp : permD (ds ++ es') kw.perm with
  | none => rw [hp] at h; cases h
  | some us =>
    rw [hp] at h
    refine tA_go r e h1 fun vs H1 φ1 x1 r1 e1 hv => tA_go r1 e1 h2 fun zs H2 φ2 x2 r2 e2 hz => ?_
    have hu := gK_rv (hv.mono r1.cm x2) hz hp (hn1 _ _ _ h1) (hn2 _ _ _ h2)
    exact ⟨arity hu (hl _ _ _ h), φ2, s2, us, d, s', r2, hu, h, q.ext (x1.trans r1.cm x2) r2⟩
theorem se_callk0 {k : Nat} {f : FnE} {kw : KwE} {c : List D → S → Option (D × S)} {p : Pos} {kws : List Keyword} {rk : Env → S → Option (List D × S)} (F : FnAt X.prog X.w X.K X.mg X.base k f c) (hkw : kw ∈ f.kws) (hr : Room k X.A) (hg : Gl X f.x) (hl : ∀ ds s z, c ds s = some z → ds.length = f.ps.length) (hdb : (f.x == ("__debug__" : Str)) = false)
    (hk : PK X kws (tA X.K rk)) (hall : (backToKw pos (keywordEach kws X.env)).all (·.1.isSome) = true) (hks : (backToKw pos (keywordEach kws X.env)).filterMap (·.1) = kw.nms)
    (hpl : ((backTo pos (starEach [] X.env)).any (·.1) || (backToKw pos (keywordEach kws X.env)).any (·.1.isNone)) = false)
    (hn1 : kw.np = 0) (hn2 : ∀ env s z, rk env s = some z → z.1.length = kw.nms.length) :
    PE X (.Call (.Name f.x p) [] kws pos) (tE X.K fun env s => bd (some ([], s)) fun vs s1 => bd (rk env s1) fun ws s2 => (permD (vs ++ ws) kw.perm).bind fun us => c us s2) := by
  obtain ⟨fa, fd, F, hm, hkp, hb, hkb⟩ := F.ex
  refine ⟨fun pins s0 σ H Q I ⟨φ, env, s, d, s', r, e, h, q⟩ => ?_⟩
  refine wpAny_Call_Name_kw (ld_glob I hg hm ?_ hdb)
  obtain ⟨ds, s1, h1, h⟩ := bd_inv h
  cases h1
  obtain ⟨es', s2, h2, h⟩ := bd_inv h
  cases hp : permD ([] ++ es') kw.perm with
  | none => rw [hp] at h; cases h
  | some us =>
    rw [hp] at h
    refine PySem.W.callWith_KW0 (h₀ := X.base) I.ok.mod.kin hkp hall (thn (hk.run pos pins s0 σ H _ I (tA_go (P := fun vs H1 => spF X.K c f.ps.length (gK kw [] vs) H1 Q E0) r e h2 fun zs H2 φ2 x2 r2 e2 hz => ?_)) fun ws s3 ⟨zs, H3, I3, rz, q3⟩ => ⟨I3.kIn, ?_⟩) hpl
    · have hu := gK_rv (.nil) hz hp hn1.symm (hn2 _ _ _ h2)
      exact ⟨arity hu (hl _ _ _ h), φ2, s2, us, d, s', r2, hu, h, q.ext x2 r2⟩
    · rw [hks]
      exact run_fnk F hr (hkb kw hkw) pass0 I3 .nil rz q3
end
end Kp

/-! Kp, part K: methods, isinstance, tests; statements. Own work. -/
namespace Kp
open PySem PySem.Spec PyProof.Rows L2

section
variable {X : Cx} {pos apos : Pos} {o e a b c : Expr} {ro ra rb rc re : ER}
/-! ### methods -/
theorem se_mt0 {id : String} {name : Str} {m : Mt} (slot : Slot "list" name id) (hty : typeOf (.builtin id) = pure (.type "method_descriptor")) (hm : OpM X id (mtD m)) (ho : PE X o (tE X.K ro)) (hbase : attributeBase o name X.env (eval o X.env) = eval o X.env) (hline : (apos.endLine == pos.line) = true) :
    PE X (.Call (.Attribute o name apos) [] [] pos) (tE X.K fun env s => bd (ro env s) fun x s1 => bd (some ([], s1)) (mtD m x)) := by
  have hm' : MtR X id (fun x xs H Q => ∃ φ s d ds d' s', Rel X.K φ s H ∧ RV X.K φ s.length H x d ∧ RVs X.K φ s.length H xs ds ∧ mtD m d ds s = some (d', s') ∧ PostE X.K φ s.length H d' s' Q) := by
    intro pins sh σ H x xs v us Q I rx rv ⟨φ, s, d, ds, d', s', r, hx, hxs, h, q⟩
    exact hm pins sh σ H x xs v us Q φ s d ds d' s' I rx rv r hx hxs h q
  refine pe_imp (pe_bm0 PySem.F.plainAttrs_list slot hty hm' ho hbase hline) fun σ H Q ⟨φ, env, s, d, s', r, e, h, q⟩ => ?_
  obtain ⟨x, s1, h1, h⟩ := bd_inv h
  have h : mtD m x [] s1 = some (d, s') := h
  refine tE_go r e h1 fun v H1 φ1 x1 r1 e1 hv => ?_
  obtain ⟨k, xs, rfl, hk⟩ := mt_cell h
  have hv' := hv
  cases hv with
  | ref _ hi =>
    obtain ⟨_, vs, q1, _⟩ := cell_at r1 hk
    exact ⟨.inl ⟨rfl, vs, SqL.of q1⟩, φ1, s1, _, [], d, s', r1, hv', .nil, h, q.ext x1 r1⟩
theorem ref_list {K : PySem.W.Frag} {φ : Ph} {s : S} {H : Hp} {k : Nat} {v : V} (r : Rel K φ s H) (hv : RV K φ s.length H v (.ref k)) : tyV K "list" v H := by
  cases hv with
  | ref _ hi =>
    have e : s[k]? = some s[k] := List.getElem?_eq_getElem hi
    have h := r.cell k _ e
    cases hc : s[k] with
    | lst ds =>
      rw [hc] at h
      obtain ⟨vs, h, _⟩ := h
      exact .inl ⟨rfl, vs, SqL.of h⟩
    | dct _ => rw [hc] at h; exact h.elim
    | ins _ _ => rw [hc] at h; exact h.elim
theorem se_mt {id : String} {name : Str} {m : Mt} {es : List Expr} {rr : Env → S → Option (List D × S)} (slot : Slot "list" name id) (hty : typeOf (.builtin id) = pure (.type "method_descriptor")) (hm : OpM X id (mtD m)) (ho : PE X o (tE X.K ro)) (ha : PA X (a :: es) (tA X.K rr)) (hbase : attributeBase o name X.env (eval o X.env) = eval o X.env)
    (hfew : ((backTo pos (starEach (a :: es) X.env)).all (fun x => !x.1) && (backToKw pos (keywordEach [] X.env)).all (fun x => x.1.isSome)
      && decide ((a :: es).length + ([] : List Keyword).length + (if ([] : List Keyword).isEmpty then 0 else 1) < 30)) = true)
    (hline : (apos.endLine == pos.line) = true) (hs : starEach (a :: es) X.env = (false, eval a X.env) :: starEach es X.env) (hplain : (backTo pos (starEach es X.env)).any (·.1) = false) :
    PE X (.Call (.Attribute o name apos) (a :: es) [] pos) (tE X.K fun env s => bd (ro env s) fun x s1 => bd (rr env s1) (mtD m x)) := by
  have hm' : MtR X id (fun x xs H Q => ∃ φ s d ds d' s', Rel X.K φ s H ∧ RV X.K φ s.length H x d ∧ RVs X.K φ s.length H xs ds ∧ mtD m d ds s = some (d', s') ∧ PostE X.K φ s.length H d' s' Q) := by
    intro pins sh σ H x xs v us Q I rx rv ⟨φ, s, d, ds, d', s', r, hx, hxs, h, q⟩
    exact hm pins sh σ H x xs v us Q φ s d ds d' s' I rx rv r hx hxs h q
  refine pe_imp (pe_bm PySem.F.plainAttrs_list slot hty hm' ho ha hbase hfew hline hs hplain) fun σ H Q ⟨φ, env, s, d, s', r, e, h, q⟩ => ?_
  obtain ⟨x, s1, h1, h⟩ := bd_inv h
  obtain ⟨ds, s2, h2, h⟩ := bd_inv h
  refine tE_go r e h1 fun v H1 φ1 x1 r1 e1 hv => ?_
  obtain ⟨k, xs, rfl, hk⟩ := mt_cell h
  refine ⟨ref_list r1 hv, tA_go r1 e1 h2 fun vs H2 φ2 x2 r2 e2 hvs => ?_⟩
  exact ⟨φ2, s2, _, ds, d, s', r2, hv.mono r1.cm x2, hvs, h, q.ext (x1.trans r1.cm x2) r2⟩

/-! ### isinstance -/
theorem cr_isi {t : Ty} : CallR X (.builtin "isinstance") (fun xs H Q => ∃ x φ s d b, xs = [x, .ty (tyName t)] ∧ Rel X.K φ s H ∧ RV X.K φ s.length H x d ∧ isiD d t s = some b ∧ Q (.bl b) H) := by
  intro pins sh σ H xs us Q I rv ⟨x, φ, s, d, b, ex, r, hx, h, q⟩
  subst ex
  exact isi_ok I rv r hx h q
theorem se_isi {t : Ty} {p p2 : Pos} (hg : Gl X "isinstance") (hm : X.mg "isinstance" = none) (hgT : Gl X (Str.ofString (tyName t))) (hmT : X.mg (Str.ofString (tyName t)) = none) (hbT : bootBuiltins (Str.ofString (tyName t)) = some (.type (tyName t))) (hnT : Str.ofString (tyName t) ≠ "__name__") (hdT : (Str.ofString (tyName t) == ("__debug__" : Str)) = false)
    (ha : PE X a (tE X.K ra)) (hs : starEach [a, .Name (Str.ofString (tyName t)) p2] X.env = (false, eval a X.env) :: starEach [.Name (Str.ofString (tyName t)) p2] X.env) :
    PE X (.Call (.Name "isinstance" p) [a, .Name (Str.ofString (tyName t)) p2] [] pos) (tE X.K fun env s => bd (ra env s) fun x s1 => (isiD x t s1).map fun b => (.bl b, s1)) := by
  refine pe_imp (pe_callB (cr_isi (t := t)) hg hm boot_isinstance (pa_cons ha (pa_cons (pe_bltn (v := .ty (tyName t)) hgT hmT hbT rfl hnT hdT) pa_nil rfl) hs) (by decide) (by decide) hs rfl) fun σ H Q ⟨φ, env, s, d, s', r, e, h, q⟩ => ?_
  obtain ⟨x, s1, h1, h⟩ := bd_inv h
  cases hb : isiD x t s1 with
  | none => rw [hb] at h; cases h
  | some b =>
    rw [hb] at h
    cases h
    refine tE_go r e h1 fun v H1 φ1 x1 r1 e1 hv => ?_
    exact ⟨v, φ1, _, x, b, rfl, r1, hv, hb, (q.ext x1 r1).now r1 (.bl _)⟩

/-! ### list(range(n)), tuple(range(n)) -/
theorem rg_rv {K : PySem.W.Frag} {φ : Ph} {n : Nat} {H : Hp} {m : Int} : RVs K φ n H (rgV 0 m) ((List.range m.toNat).map fun i => .int (i : Nat)) := by
  have e1 : rgV 0 m = ((List.range m.toNat).map fun (i : Nat) => (i : Int)).map V.int := by
    unfold rgV
    rw [List.map_map, Int.sub_zero]
    refine List.map_congr_left fun i _ => ?_
    show V.int (0 + (i : Nat)) = V.int (i : Nat)
    rw [Int.zero_add]
  have e2 : (List.range m.toNat).map (fun i => D.int (i : Nat)) = ((List.range m.toNat).map fun (i : Nat) => (i : Int)).map D.int := by
    rw [List.map_map]
    rfl
  rw [e1, e2]
  exact RVs.ints _
theorem se_listRg {mu : Bool} {p p2 pos2 : Pos} (hc : X.calm = true) (hg : Gl X "list") (hm : X.mg "list" = none) (hg2 : Gl X "range") (hm2 : X.mg "range" = none) (ha : PE X a (tE X.K ra)) (hs : starEach [a] X.env = (false, eval a X.env) :: starEach [] X.env) :
    PE X (.Call (.Name "list" p) [.Call (.Name "range" p2) [a] [] pos2] [] pos) (tE X.K fun env s => bd (bd (ra env s) fun x s1 => bd (some ([], s1)) fun xs s2 => some (x :: xs, s2)) (biD .listRg mu)) := by
  refine pe_imp (pe_listRg hc hg hm (prg_1 hg2 hm2 ha hs) rfl) fun σ H Q ⟨φ, env, s, d, s', r, e, h, q⟩ => ?_
  obtain ⟨ds, s1, h1, h⟩ := bd_inv h
  obtain ⟨x, s2, h2, h1⟩ := bd_inv h1
  cases h1
  refine tE_go r e h2 fun v H1 φ1 x1 r1 e1 hv => ?_
  cases x with
  | int n =>
    cases hv
    have h : (if -(lim : Int) ≤ n ∧ n ≤ lim then newL mu ((List.range n.toNat).map fun i => .int (i : Nat)) s1 else none) = some (d, s') := h
    by_cases hn : -(lim : Int) ≤ n ∧ n ≤ lim
    · rw [if_pos hn] at h
      obtain ⟨z1, z2⟩ := newL_post r1 rg_rv h (q.ext x1 r1)
      have hl : (lim : Int) = 100000 := rfl
      exact ⟨n, rfl, ⟨by omega, by omega, by omega, by omega, by omega⟩, z2⟩
    · rw [if_neg hn] at h
      cases h
  | _ => cases h
theorem se_tupRg {mu : Bool} {p p2 pos2 : Pos} (hc : X.calm = true) (hg : Gl X "tuple") (hm : X.mg "tuple" = none) (hg2 : Gl X "range") (hm2 : X.mg "range" = none) (ha : PE X a (tE X.K ra)) (hs : starEach [a] X.env = (false, eval a X.env) :: starEach [] X.env) :
    PE X (.Call (.Name "tuple" p) [.Call (.Name "range" p2) [a] [] pos2] [] pos) (tE X.K fun env s => bd (bd (ra env s) fun x s1 => bd (some ([], s1)) fun xs s2 => some (x :: xs, s2)) (biD .tupRg mu)) := by
  refine pe_imp (pe_tupRg hc hg hm (prg_1 hg2 hm2 ha hs) rfl) fun σ H Q ⟨φ, env, s, d, s', r, e, h, q⟩ => ?_
  obtain ⟨ds, s1, h1, h⟩ := bd_inv h
  obtain ⟨x, s2, h2, h1⟩ := bd_inv h1
  cases h1
  refine tE_go r e h2 fun v H1 φ1 x1 r1 e1 hv => ?_
  cases x with
  | int n =>
    cases hv
    have h : (if -(lim : Int) ≤ n ∧ n ≤ lim then newT ((List.range n.toNat).map fun i => .int (i : Nat)) s1 else none) = some (d, s') := h
    by_cases hn : -(lim : Int) ≤ n ∧ n ≤ lim
    · rw [if_pos hn] at h
      obtain ⟨z1, z2⟩ := newT_post r1 rg_rv h (q.ext x1 r1)
      have hl : (lim : Int) = 100000 := rfl
      exact ⟨n, rfl, ⟨by omega, by omega, by omega, by omega, by omega⟩, z2⟩
    · rw [if_neg hn] at h
      cases h
  | _ => cases h

/-! ### a conditional as a test -/
theorem pt_ifT {tc ta tb : TT} (hc : PT X c tc) (ha : PT X a ta) (hb : PT X b tb) : PT X (.IfExp c a b pos) (fun σ H Q => tc σ H fun k H1 => if k = true then ta σ H1 Q else tb σ H1 Q) := by
  refine ⟨fun pins s σ H Q I h => ?_⟩
  show wpAny _ _ (do if ← isTrue c X.env (eval c X.env) then isTrue a X.env (eval a X.env) else isTrue b X.env (eval b X.env)) _ _ s
  refine wpAny_bind (thn (hc.run pins s σ H _ I h) fun k s1 ⟨H1, I1, q1⟩ => ?_)
  cases k with
  | true => exact ha.run pins s1 σ H1 Q I1 q1
  | false => exact hb.run pins s1 σ H1 Q I1 q1
theorem st_ite (hc : PT X c (tT X.K rc)) (ha : PT X a (tT X.K ra)) (hb : PT X b (tT X.K rb)) : PT X (.IfExp c a b pos) (tT X.K fun env s => bd (rc env s) fun x s1 => match truD s1 x with
    | some true => ra env s1
    | some false => rb env s1
    | none => none) := by
  refine pt_imp (pt_ifT hc ha hb) fun σ H Q ⟨φ, env, s, d, s', b', r, e, h, hb', q⟩ => ?_
  obtain ⟨x, s1, h1, h⟩ := bd_inv h
  cases hb : truD s1 x with
  | none => rw [hb] at h; cases h
  | some k =>
    rw [hb] at h
    refine tT_go r e h1 hb fun H1 φ1 x1 r1 e1 => ?_
    cases k with
    | true => exact iteT ⟨φ1, _, s1, d, s', b', r1, e1, h, hb', fun H' φ' x' r' => q H' φ' (x1.trans r1.cm x') r'⟩
    | false => exact iteF ⟨φ1, _, s1, d, s', b', r1, e1, h, hb', fun H' φ' x' r' => q H' φ' (x1.trans r1.cm x') r'⟩
end
end Kp

/-! Kp, part L: statements. Own work. -/
namespace Kp
open PySem PySem.Spec PyProof.Rows L2

def PostS (K : PySem.W.Frag) (φ : Ph) (n : Nat) (H : Hp) (fl : Fl) (env' : Env) (s' : S) (D : Ends) : Prop := ∀ σ' H' φ', Ext φ n H φ' s'.length H' → Rel K φ' s' H' → EnvR K φ' s'.length H' σ' env' → match fl with
  | .nx => D.nx σ' H'
  | .rt d => ∀ v, RV K φ' s'.length H' v d → D.rt v H'
  | .bk => D.bk σ' H'
  | .ct => D.ct σ' H'
abbrev SR := Env → S → Option (Fl × Env × S)
def tS (K : PySem.W.Frag) (r : SR) : TS := fun D σ H => ∃ φ env s fl env' s', Rel K φ s H ∧ EnvR K φ s.length H σ env ∧ r env s = some (fl, env', s') ∧ PostS K φ s.length H fl env' s' D
section
variable {X : Cx} {pos pos' : Pos} {o e a b c tg : Expr} {ro ra rb rc re : ER} {st : Stmt} {sts : List Stmt}
theorem ps_imp {t t' : TS} (h : PS X st t) (k : ∀ D σ H, t' D σ H → t D σ H) : PS X st t' := ⟨fun pins s σ H D I hw => h.run pins s σ H D I (k D σ H hw)⟩
theorem pss_imp {t t' : TS} (h : PSs X sts t) (k : ∀ D σ H, t' D σ H → t D σ H) : PSs X sts t' := ⟨fun pins s σ H D I hw => h.run pins s σ H D I (k D σ H hw)⟩
theorem PostS.ext {K : PySem.W.Frag} {φ φ1 : Ph} {n : Nat} {H H1 : Hp} {s1 s' : S} {fl : Fl} {env' : Env} {D : Ends} (x : Ext φ n H φ1 s1.length H1) (r : Rel K φ1 s1 H1) (h : PostS K φ n H fl env' s' D) : PostS K φ1 s1.length H1 fl env' s' D :=
  fun σ' H' φ' x' r' e' => h σ' H' φ' (x.trans r.cm x') r' e'
theorem ss_asg {t : Tg} (he : PE X e (tE X.K re)) (hg : PG X tg (tG X.K t)) (hs : swapsWithSole [tg] e pos.line X.env = pure false) (hw : swappedStores [tg] e X.env = pure none) (h1 : (assignEach [tg] X.env).map (·.2) = [assign tg X.env]) :
    PS X (.Assign [tg] e pos) (tS X.K fun env s => match re env s with
    | some (x, s1) => (asgT t x env).map fun env' => (.nx, env', s1)
    | none => none) := by
  refine ps_imp (ps_asg he hg hs hw h1) fun D σ H ⟨φ, env, s, fl, env', s', r, e, h, q⟩ => ?_
  dsimp only at h
  cases h2 : re env s with
  | none => rw [h2] at h; cases h
  | some p =>
    obtain ⟨x, s1⟩ := p
    rw [h2] at h
    have h : (asgT t x env).map (fun env' => (Fl.nx, env', s1)) = some (fl, env', s') := h
    cases h3 : asgT t x env with
    | none => rw [h3] at h; cases h
    | some env1 =>
      rw [h3] at h
      cases h
      refine tE_go r e h2 fun v H1 φ1 x1 r1 e1 hv => ?_
      exact ⟨φ1, env, _, x, _, r1, e1, hv, h3, fun σ' e' _ => q σ' H1 φ1 x1 r1 e'⟩
theorem ss_asgLc {i : Nat} {y : Str} {py : Pos} {elt iter : Expr} {ifs : List Expr} {scope : Scope} {own : List (Str × Nat)} {t : Tg} {ri : IR} {rt : Env → S → Option (Bool × S)} {mu : Bool} {spos : Pos} (hc : X.calm = true) (hN : X.N.Nodup) (hy : X.N[i]? = some y) (hyl : X.env.scope.names.lookup y = some .local)
    (hsw : swapsWith (.ListComp elt [⟨tg, iter, ifs, 0⟩] scope pos) (some (.Name y py)) spos.line X.env = pure true) (hi : PI X tg iter (tI X.K ri)) (ok : BlkOk X.N X.env.scope scope own)
    (hg : ∀ (s : Shared) (H : Hp) (C : Addr) (cl : List (Str × Addr)) (fp : List Addr), PG (X.blk s H scope (compEnvC scope cl C X.env) fp) tg (tG X.K t)) (ht : ∀ (s : Shared) (H : Hp) (C : Addr) (cl : List (Str × Addr)) (fp : List Addr), PTs (X.blk s H scope (compEnvC scope cl C X.env) fp) ifs (tQ X.K rt))
    (he : ∀ (s : Shared) (H : Hp) (C : Addr) (cl : List (Str × Addr)) (fp : List Addr), PE (X.blk s H scope (compEnvC scope cl C X.env) fp) elt (tE X.K re)) (hs : ∀ x, foldedSetIterable iter X.env x = pure x) (hsl : ∀ i ∈ slots t, i ∈ own.map (·.2)) :
    PS X (.Assign [.Name y py] (.ListComp elt [⟨tg, iter, ifs, 0⟩] scope pos) spos) (tS X.K fun env s => match (bd (ri env s) fun p s1 => bd (compL (stepL t (own.map (·.2)) rt re env) p.2 p.1 s1) (newL mu)) with
    | some (x, s1) => some (.nx, env.set i (some x), s1)
    | none => none) := by
  refine ps_imp (ps_setLc hc hN hy hyl hsw hi ok hg ht he hs) fun D σ H ⟨φ, env, s, fl, env', s', r, e, h, q⟩ => ?_
  dsimp only at h
  cases h2 : (bd (ri env s) fun p s1 => bd (compL (stepL t (own.map (·.2)) rt re env) p.2 p.1 s1) (newL mu)) with
  | none => rw [h2] at h; cases h
  | some p =>
    obtain ⟨x, s1⟩ := p
    rw [h2] at h
    cases h
    refine lc_read hsl r e h2 fun v H1 φ1 x1 r1 hv => ?_
    exact q _ H1 φ1 x1 r1 ((e.mono r.cm x1).set hv i)
/-- a, b, c = x, y, z with plain local names -/
theorem ps_par3 {i j k : Nat} {x y z : Str} {a b c : Expr} {ta : TA} {px py pz pt : Pos} {kt k2 pt2} (hc : X.calm = true) (hN : X.N.Nodup) (hi : X.N[i]? = some x) (hj : X.N[j]? = some y) (hk : X.N[k]? = some z) (hij : i ≠ j) (hik : i ≠ k) (hjk : j ≠ k)
    (hx : X.env.scope.names.lookup x = some .local) (hy : X.env.scope.names.lookup y = some .local) (hz : X.env.scope.names.lookup z = some .local) (ha : PA X [a, b, c] ta)
    (hw : swappedStores [.Tuple [.Name x px, .Name y py, .Name z pz] kt pt] (.Tuple [a, b, c] k2 pt2) X.env = pure (some [x, y, z]))
    (hs : swapsWithSole [.Tuple [.Name x px, .Name y py, .Name z pz] kt pt] (.Tuple [a, b, c] k2 pt2) pos.line X.env = pure false) :
    PS X (.Assign [.Tuple [.Name x px, .Name y py, .Name z pz] kt pt] (.Tuple [a, b, c] k2 pt2) pos) (fun D σ H => ta σ H fun vs H1 => ∃ u v w, vs = [u, v, w] ∧ D.nx (((σ.set i (some u)).set j (some v)).set k (some w)) H1) := by
  refine ⟨fun pins s σ H D I h => ?_⟩
  rw [exec_Assign_arm]
  refine wpAny_bind (wpAny_standAt ?_)
  rw [hs]
  refine wpAny_bind (wpAny_pure ?_)
  rw [if_neg (by decide)]
  refine wpAny_bind (Tuple_ (thn (ha.run _ pins s σ H _ I h) fun us s1 ⟨vs, H1, I1, r1, q1⟩ => ?_))
  obtain ⟨v, w, t, e1, q1⟩ := q1
  subst e1
  obtain ⟨u1, u2, u3, rfl, rv, rw', rt⟩ : ∃ u1 u2 u3, us = [u1, u2, u3] ∧ RelV v u1 ∧ RelV w u2 ∧ RelV t u3 := by
    cases r1 with
    | cons p q =>
      cases q with
      | cons p' q' =>
        cases q' with
        | cons p'' q'' =>
          cases q''
          exact ⟨_, _, _, rfl, p, p', p''⟩
  refine wpAny_newObj_type ?_ (by show 3 ≤ sizeLine; decide)
  have I2 : Inv X pins σ H1 { s1 with heap := s1.heap.push { cls := .type "tuple", data := .seq [u1, u2, u3].toArray } } := I1.kept (t' := s1.toks) fun b o e => Heap.get?_push_of_some _ e
  rw [hw]
  refine wpAny_bind (wpAny_pure ?_)
  show wpAny (model X.prog X.w) X.A (do rule "assign.swapped-stores"; let items ← unpackItems (.ref s1.heap.objs.size) 3 none; assignInOrder [fun v => bindName X.env z v, fun v => bindName X.env y v, fun v => bindName X.env x v] items.reverse; pure Flow.next) _ _ _
  refine wpAny_bind (wpAny_rule (wpAny_bind (unpackItems_tuple (items := #[u1, u2, u3]) (I.ok.hd hc) (IsTup.new s1.heap _) fun h' hx' => ?_)))
  have I3 := I2.kept (h' := h') (t' := s1.toks) fun b o e => hx' b o (Nat.ne_of_lt (Heap.lt_size e)) e
  show wpAny _ _ (assignInOrder [fun v => bindName X.env z v, fun v => bindName X.env y v, fun v => bindName X.env x v] [u3, u2, u1] >>= fun _ => pure Flow.next) _ _ _
  refine wpAny_bind (assignInOrder_cons (wpAny_bindName (store_ok I3 hN hk (.inl hz) rt (fun s2 I4 => ?_) (.inr hz))))
  refine assignInOrder_cons (wpAny_bindName (store_ok I4 hN hj (.inl hy) rw' (fun s3 I5 => ?_) (.inr hy)))
  refine assignInOrder_cons (wpAny_bindName (store_ok I5 hN hi (.inl hx) rv (fun s4 I6 => assignInOrder_nil (wpAny_pure ?_)) (.inr hx)))
  rw [List.set_comm _ _ (Ne.symm hij), List.set_comm _ _ (Ne.symm hik), List.set_comm _ _ (Ne.symm hjk)] at I6
  exact ⟨_, H1, I6, q1⟩
theorem ss_par2 {i j : Nat} {x y : Str} {a b : Expr} {rr : Env → S → Option (List D × S)} {px py pt : Pos} {kt k2 : Nat} {pt2 : Pos} (hc : X.calm = true) (hN : X.N.Nodup) (hi : X.N[i]? = some x) (hj : X.N[j]? = some y) (hij : i ≠ j)
    (hx : X.env.scope.names.lookup x = some .local) (hy : X.env.scope.names.lookup y = some .local) (ha : PA X [a, b] (tA X.K rr))
    (hw : swappedStores [.Tuple [.Name x px, .Name y py] kt pt] (.Tuple [a, b] k2 pt2) X.env = pure (some [x, y]))
    (hs : swapsWithSole [.Tuple [.Name x px, .Name y py] kt pt] (.Tuple [a, b] k2 pt2) pos.line X.env = pure false) :
    PS X (.Assign [.Tuple [.Name x px, .Name y py] kt pt] (.Tuple [a, b] k2 pt2) pos) (tS X.K fun env s => match rr env s with
    | some (ds, s1) => if ds.length = 2 then some (.nx, setAll env [i, j] ds, s1) else none
    | none => none) := by
  refine ps_imp (ps_par hc hN hi hj hij hx hy ha hw hs) fun D σ H ⟨φ, env, s, fl, env', s', r, e, h, q⟩ => ?_
  dsimp only at h
  cases h2 : rr env s with
  | none => rw [h2] at h; cases h
  | some p =>
    obtain ⟨ds, s1⟩ := p
    rw [h2] at h
    have h : (if ds.length = 2 then some (Fl.nx, setAll env [i, j] ds, s1) else none) = some (fl, env', s') := h
    by_cases hl : ds.length = 2
    · rw [if_pos hl] at h
      cases h
      match ds, hl with
      | [d1, d2], _ =>
        refine tA_go r e h2 fun vs H1 φ1 x1 r1 e1 hv => ?_
        obtain ⟨v, w, rfl, rv, rw'⟩ := rvs2 hv
        exact ⟨v, w, rfl, q _ H1 φ1 x1 r1 ((e1.set rv i).set rw' j)⟩
    · rw [if_neg hl] at h
      cases h
theorem ss_par3 {i j k : Nat} {x y z : Str} {a b c : Expr} {rr : Env → S → Option (List D × S)} {px py pz pt : Pos} {kt k2 : Nat} {pt2 : Pos} (hc : X.calm = true) (hN : X.N.Nodup) (hi : X.N[i]? = some x) (hj : X.N[j]? = some y) (hk : X.N[k]? = some z) (hij : i ≠ j) (hik : i ≠ k) (hjk : j ≠ k)
    (hx : X.env.scope.names.lookup x = some .local) (hy : X.env.scope.names.lookup y = some .local) (hz : X.env.scope.names.lookup z = some .local) (ha : PA X [a, b, c] (tA X.K rr))
    (hw : swappedStores [.Tuple [.Name x px, .Name y py, .Name z pz] kt pt] (.Tuple [a, b, c] k2 pt2) X.env = pure (some [x, y, z]))
    (hs : swapsWithSole [.Tuple [.Name x px, .Name y py, .Name z pz] kt pt] (.Tuple [a, b, c] k2 pt2) pos.line X.env = pure false) :
    PS X (.Assign [.Tuple [.Name x px, .Name y py, .Name z pz] kt pt] (.Tuple [a, b, c] k2 pt2) pos) (tS X.K fun env s => match rr env s with
    | some (ds, s1) => if ds.length = 3 then some (.nx, setAll env [i, j, k] ds, s1) else none
    | none => none) := by
  refine ps_imp (ps_par3 hc hN hi hj hk hij hik hjk hx hy hz ha hw hs) fun D σ H ⟨φ, env, s, fl, env', s', r, e, h, q⟩ => ?_
  dsimp only at h
  cases h2 : rr env s with
  | none => rw [h2] at h; cases h
  | some p =>
    obtain ⟨ds, s1⟩ := p
    rw [h2] at h
    have h : (if ds.length = 3 then some (Fl.nx, setAll env [i, j, k] ds, s1) else none) = some (fl, env', s') := h
    by_cases hl : ds.length = 3
    · rw [if_pos hl] at h
      cases h
      match ds, hl with
      | [d1, d2, d3], _ =>
        refine tA_go r e h2 fun vs H1 φ1 x1 r1 e1 hv => ?_
        cases hv with
        | cons h1 hv =>
          obtain ⟨v, w, rfl, rv, rw'⟩ := rvs2 hv
          exact ⟨_, v, w, rfl, q _ H1 φ1 x1 r1 (((e1.set h1 i).set rv j).set rw' k)⟩
    · rw [if_neg hl] at h
      cases h
/-- o[i] = v -/
theorem ss_sset {p2 : Pos} (he : PE X e (tE X.K re)) (ho : PE X o (tE X.K ro)) (ha : PE X a (tE X.K ra)) (hs : swapsWithSole [.Subscript o a p2] e pos.line X.env = pure false) (hw : swappedStores [.Subscript o a p2] e X.env = pure none)
    (has : ∀ v, assign (.Subscript o a p2) X.env v = (do
      let ov ← holding [v] (eval o X.env)
      let iv ← holding [v, ov] (eval a X.env)
      standAt p2
      holding [v, ov, iv] (setItem ov iv v)
      release [v, ov, iv] [])) :
    PS X (.Assign [.Subscript o a p2] e pos) (tS X.K fun env s => match re env s with
    | some (x, s1) => match ro env s1 with
      | some (y, s2) => match ra env s2 with
        | some (z, s3) => (setD y z x s3).map fun s4 => (.nx, env, s4)
        | none => none
      | none => none
    | none => none) := by
  have hset : PSet X (fun ov iv x H Q => ∃ φ s d e f s', Rel X.K φ s H ∧ RV X.K φ s.length H ov d ∧ RV X.K φ s.length H iv e ∧ RV X.K φ s.length H x f ∧ setD d e f s = some s' ∧ ∀ H', Ext φ s.length H φ s'.length H' → Rel X.K φ s' H' → Q H') := by
    intro pins sh σ H ov iv x o' i' v' Q I r1 r2 r3 ⟨φ, s, d, e, f, s', r, hd, he, hf, h, q⟩
    exact set_ok I r1 r2 r3 r hd he hf h q
  refine ps_imp (ps_asg he (pg_sub ho ha hset has) hs hw rfl) fun D σ H ⟨φ, env, s, fl, env', s', r, e, h, q⟩ => ?_
  dsimp only at h
  cases h1 : re env s with
  | none => rw [h1] at h; cases h
  | some p =>
    obtain ⟨x, s1⟩ := p
    rw [h1] at h
    cases h2 : ro env s1 with
    | none =>
      have h : (match ro env s1 with
      | some (y, s2) => match ra env s2 with
        | some (z, s3) => (setD y z x s3).map fun s4 => (Fl.nx, env, s4)
        | none => none
      | none => none) = some (fl, env', s') := h
      rw [h2] at h; cases h
    | some p =>
      obtain ⟨y, s2⟩ := p
      have h : (match ro env s1 with
      | some (y, s2) => match ra env s2 with
        | some (z, s3) => (setD y z x s3).map fun s4 => (Fl.nx, env, s4)
        | none => none
      | none => none) = some (fl, env', s') := h
      rw [h2] at h
      have h : (match ra env s2 with
        | some (z, s3) => (setD y z x s3).map fun s4 => (Fl.nx, env, s4)
        | none => none) = some (fl, env', s') := h
      cases h3 : ra env s2 with
      | none => rw [h3] at h; cases h
      | some p =>
        obtain ⟨z, s3⟩ := p
        rw [h3] at h
        have h : (setD y z x s3).map (fun s4 => (Fl.nx, env, s4)) = some (fl, env', s') := h
        cases h4 : setD y z x s3 with
        | none => rw [h4] at h; cases h
        | some s4 =>
          rw [h4] at h
          cases h
          refine tE_go r e h1 fun v H1 φ1 x1 r1 e1 hv => tE_go r1 e1 h2 fun w H2 φ2 x2 r2 e2 hw => tE_go r2 e2 h3 fun u H3 φ3 x3 r3 e3 hu => ?_
          have x23 := x2.trans r2.cm x3
          refine ⟨φ3, s3, y, z, x, _, r3, hw.mono r2.cm x3, hu, hv.mono r1.cm x23, h4, fun H4 x4 r4 => ?_⟩
          exact q _ H4 φ3 ((x1.trans r1.cm x23).trans r3.cm x4) r4 (e3.mono r3.cm x4)
/-- name op= e -/
theorem ss_aug {i : Nat} {x : Str} {op : Operator} {g : D → D → S → Option (D × S)} (hN : X.N.Nodup) (hi : X.N[i]? = some x) (hx : Loc X.env.scope x) (he : PE X e (tE X.K re)) (ho : OpS X (inplaceOp op) g) (hf : X.fn x = true ∨ X.env.scope.names.lookup x = some .local) :
    PS X (.AugAssign (.Name x pos') op e pos) (tS X.K fun env s => match env[i]? with
    | some (some x) => match re env s with
      | some (y, s1) => match g x y s1 with
        | some (z, s2) => some (.nx, env.set i (some z), s2)
        | none => none
      | none => none
    | _ => none) := by
  have hp : PIp X op (rOp X.K g) := by
    intro pins s σ H x y v u Q I rx ry ⟨φ, st, d, e, d', s', r, hx, hy, hg, q⟩
    exact ho pins s σ H x y v u Q φ st d e d' s' I rx ry r hx hy hg q
  refine ps_imp (ps_aug hN hi hx he hp hf) fun D σ H ⟨φ, env, s, fl, env', s', r, e, h, q⟩ => ?_
  dsimp only at h
  cases h1 : env[i]? with
  | none => rw [h1] at h; cases h
  | some o1 => cases o1 with
    | none => rw [h1] at h; cases h
    | some dx =>
      rw [h1] at h
      have h : (match re env s with
      | some (y, s1) => match g dx y s1 with
        | some (z, s2) => some (Fl.nx, env.set i (some z), s2)
        | none => none
      | none => none) = some (fl, env', s') := h
      cases h2 : re env s with
      | none => rw [h2] at h; cases h
      | some p =>
        obtain ⟨y, s1⟩ := p
        rw [h2] at h
        have h : (match g dx y s1 with
        | some (z, s2) => some (Fl.nx, env.set i (some z), s2)
        | none => none) = some (fl, env', s') := h
        cases h3 : g dx y s1 with
        | none => rw [h3] at h; cases h
        | some p =>
          obtain ⟨z, s2⟩ := p
          rw [h3] at h
          cases h
          obtain ⟨v, hv1, hv2⟩ := e.2 i dx h1
          refine ⟨v, hv1, tE_go r e h2 fun w H1 φ1 x1 r1 e1 hw => ?_⟩
          refine ⟨φ1, s1, dx, y, z, _, r1, hv2.mono r.cm x1, hw, h3, fun u H2 φ2 x2 r2 hu => ?_⟩
          exact q _ H2 φ2 (x1.trans r1.cm x2) r2 ((e1.mono r1.cm x2).set hu i)
theorem ss_exp (he : PE X e (tE X.K re)) (hs : swapsWith e none pos.line X.env = pure false) : PS X (.Expr e pos) (tS X.K fun env s => match re env s with
    | some (_, s1) => some (.nx, env, s1)
    | none => none) := by
  refine ps_imp (ps_expr he hs) fun D σ H ⟨φ, env, s, fl, env', s', r, e, h, q⟩ => ?_
  dsimp only at h
  cases h1 : re env s with
  | none => rw [h1] at h; cases h
  | some p =>
    obtain ⟨x, s1⟩ := p
    rw [h1] at h
    cases h
    exact tE_go r e h1 fun v H1 φ1 x1 r1 e1 hv => q _ H1 φ1 x1 r1 e1
theorem ss_ret (he : PE X e (tE X.K re)) : PS X (.Return (some e) pos) (tS X.K fun env s => match re env s with
    | some (x, s1) => some (.rt x, env, s1)
    | none => none) := by
  refine ps_imp (ps_ret he) fun D σ H ⟨φ, env, s, fl, env', s', r, e, h, q⟩ => ?_
  dsimp only at h
  cases h1 : re env s with
  | none => rw [h1] at h; cases h
  | some p =>
    obtain ⟨x, s1⟩ := p
    rw [h1] at h
    cases h
    exact tE_go r e h1 fun v H1 φ1 x1 r1 e1 hv => q σ H1 φ1 x1 r1 e1 v hv
theorem ss_retn : PS X (.Return none pos) (tS X.K fun env s => some (.rt .non, env, s)) :=
  ps_imp ps_retN fun D σ H ⟨φ, env, s, fl, env', s', r, e, h, q⟩ => by
    cases h
    exact q σ H φ Ext.refl r e _ .non
theorem ss_if {aa bb : List Stmt} {sa sb : SR} (hc : PT X c (tT X.K rc)) (ha : PSs X aa (tS X.K sa)) (hb : PSs X bb (tS X.K sb)) : PS X (.If c aa bb pos) (tS X.K fun env s => match rc env s with
    | some (x, s1) => match truD s1 x with
      | some true => sa env s1
      | some false => sb env s1
      | none => none
    | none => none) := by
  refine ps_imp (ps_if hc ha hb) fun D σ H ⟨φ, env, s, fl, env', s', r, e, h, q⟩ => ?_
  dsimp only at h
  cases h1 : rc env s with
  | none => rw [h1] at h; cases h
  | some p =>
    obtain ⟨x, s1⟩ := p
    rw [h1] at h
    have h : (match truD s1 x with
      | some true => sa env s1
      | some false => sb env s1
      | none => none) = some (fl, env', s') := h
    cases hb : truD s1 x with
    | none => rw [hb] at h; cases h
    | some k =>
      rw [hb] at h
      refine tT_go r e h1 hb fun H1 φ1 x1 r1 e1 => ?_
      cases k with
      | true => exact iteT ⟨φ1, env, s1, fl, env', s', r1, e1, h, q.ext x1 r1⟩
      | false => exact iteF ⟨φ1, env, s1, fl, env', s', r1, e1, h, q.ext x1 r1⟩
theorem ss_brk : PS X (.Break pos) (tS X.K fun env s => some (.bk, env, s)) := ps_imp ps_break fun D σ H ⟨φ, env, s, fl, env', s', r, e, h, q⟩ => by
  cases h
  exact q σ H φ Ext.refl r e
theorem ss_cnt : PS X (.Continue pos) (tS X.K fun env s => some (.ct, env, s)) := ps_imp ps_continue fun D σ H ⟨φ, env, s, fl, env', s', r, e, h, q⟩ => by
  cases h
  exact q σ H φ Ext.refl r e
theorem ss_pas : PS X (.Pass pos) (tS X.K fun env s => some (.nx, env, s)) := ps_imp ps_pass fun D σ H ⟨φ, env, s, fl, env', s', r, e, h, q⟩ => by
  cases h
  exact q σ H φ Ext.refl r e
theorem sss_nil : PSs X [] (tS X.K fun env s => some (.nx, env, s)) := pss_imp pss_nil fun D σ H ⟨φ, env, s, fl, env', s', r, e, h, q⟩ => by
  cases h
  exact q σ H φ Ext.refl r e
theorem sss_cons {s1 s2 : SR} (h1 : PS X st (tS X.K s1)) (h2 : PSs X sts (tS X.K s2)) : PSs X (st :: sts) (tS X.K fun env s => match s1 env s with
    | some (.nx, env', s') => s2 env' s'
    | r => r) := by
  refine pss_imp (pss_cons h1 h2) fun D σ H ⟨φ, env, s, fl, env', s', r, e, h, q⟩ => ?_
  dsimp only at h
  cases hh : s1 env s with
  | none => rw [hh] at h; cases h
  | some p =>
    obtain ⟨f1, env1, st1⟩ := p
    rw [hh] at h
    refine ⟨φ, env, s, f1, env1, st1, r, e, hh, fun σ' H' φ' x' r' e' => ?_⟩
    cases f1 with
    | nx => exact ⟨φ', env1, st1, fl, env', s', r', e', h, q.ext x' r'⟩
    | rt d => cases h; exact q σ' H' φ' x' r' e'
    | bk => cases h; exact q σ' H' φ' x' r' e'
    | ct => cases h; exact q σ' H' φ' x' r' e'
/-! ### loops -/
theorem ss_while {bb : List Stmt} {sb : SR} (hx : X.xe = fun _ _ => False) (hc : PT X c (tT X.K rc)) (hb : PSs X bb (tS X.K sb)) (fuel : Nat) : PS X (.While c bb [] pos) (tS X.K fun env s => whlL (fun env s => bd (rc env s) fun x s1 => tru s1 x) sb fuel env s) := by
  refine ps_imp (ps_while (by rw [hx]; exact PassesOwn.never) hc hb) fun D σ H ⟨φ0, env0, s0, fl, env', s', r0, e0, h0, q⟩ => ?_
  dsimp only at h0
  refine ⟨fun m σ H' => ∃ φ env s, Ext φ0 s0.length H φ s.length H' ∧ Rel X.K φ s H' ∧ EnvR X.K φ s.length H' σ env ∧ whlL (fun env s => bd (rc env s) fun x s1 => tru s1 x) sb m env s = some (fl, env', s'), ⟨fuel, φ0, env0, s0, Ext.refl, r0, e0, h0⟩, ?_⟩
  rintro m σ1 H1 ⟨φ1, env1, s1, x1, r1, e1, h1⟩
  cases m with
  | zero => cases h1
  | succ m =>
    unfold whlL at h1
    cases ht : (bd (rc env1 s1) fun x s1 => tru s1 x) with
    | none => rw [ht] at h1; cases h1
    | some p =>
      obtain ⟨k, s2⟩ := p
      rw [ht] at h1
      obtain ⟨x, s3, h3, ht⟩ := bd_inv ht
      unfold tru at ht
      cases hk : truD s3 x with
      | none => rw [hk] at ht; cases ht
      | some k' =>
        rw [hk] at ht
        cases ht
        refine tT_go r1 e1 h3 hk fun H2 φ2 x2 r2 e2 => ?_
        have x02 := x1.trans r1.cm x2
        cases k with
        | false =>
          cases h1
          exact iteF (q σ1 H2 φ2 x02 r2 e2)
        | true =>
          refine iteT ?_
          have h1 : (match sb env1 s2 with
            | some (.nx, env', s') => whlL (fun env s => bd (rc env s) fun x s1 => tru s1 x) sb m env' s'
            | some (.ct, env', s') => whlL (fun env s => bd (rc env s) fun x s1 => tru s1 x) sb m env' s'
            | some (.bk, env', s') => some (.nx, env', s')
            | some (.rt v, env', s') => some (.rt v, env', s')
            | none => none) = some (fl, env', s') := h1
          cases h4 : sb env1 s2 with
          | none => rw [h4] at h1; cases h1
          | some p =>
            obtain ⟨f4, env4, s4⟩ := p
            rw [h4] at h1
            refine ⟨fun σ H' => ∃ φ env s, Ext φ0 s0.length H φ s.length H' ∧ Rel X.K φ s H' ∧ EnvR X.K φ s.length H' σ env ∧ whlL (fun env s => bd (rc env s) fun x s1 => tru s1 x) sb m env s = some (fl, env', s'), fun σ' H' z => ⟨m, Nat.lt_succ_self _, z⟩, ?_⟩
            refine ⟨φ2, env1, s2, f4, env4, s4, r2, e2, h4, fun σ' H' φ' x' r' e' => ?_⟩
            have x03 := x02.trans r2.cm x'
            cases f4 with
            | nx => exact ⟨φ', env4, s4, x03, r', e', h1⟩
            | ct => exact ⟨φ', env4, s4, x03, r', e', h1⟩
            | bk => cases h1; exact q σ' H' φ' x03 r' e'
            | rt d => cases h1; exact q σ' H' φ' x03 r' e'
theorem ss_for {iter : Expr} {bb : List Stmt} {t : Tg} {ri : IR} {sb : SR} (hx : X.xe = fun _ _ => False) (hc : X.calm = true) (hi : PI X tg iter (tI X.K ri)) (hg : PG X tg (tG X.K t)) (hb : PSs X bb (tS X.K sb)) (hs : ∀ x, foldedSetIterable iter X.env x = pure x) :
    PS X (.For tg iter bb [] pos) (tS X.K fun env s => match ri env s with
    | some ((ds, lk), s1) => forL (fun d env s => match asgT t d env with
        | some env' => sb env' s
        | none => none) lk ds env s1
    | none => none) := by
  refine ps_imp (ps_for (by rw [hx]; exact PassesOwn.never) hc hi hg hb hs) fun D σ H ⟨φ0, env0, s0, fl, env', s', r0, e0, h0, q⟩ => ?_
  dsimp only at h0
  cases h1 : ri env0 s0 with
  | none => rw [h1] at h0; cases h0
  | some p =>
    obtain ⟨⟨ds, lk⟩, s1⟩ := p
    rw [h1] at h0
    generalize hstep : (fun d env s => match asgT t d env with
        | some env' => sb env' s
        | none => none : Kp.D → Env → S → Option (Fl × Env × S)) = step at h0
    have h0 : forL step lk ds env0 s1 = some (fl, env', s') := h0
    refine ⟨φ0, env0, s0, ds, lk, s1, r0, e0, h1, fun J H1 φ1 x1 r1 l1 it => ?_⟩
    refine ⟨fun i m σ H' => m = ds.length - i ∧ i ≤ ds.length ∧ ∃ φ env s, Ext φ1 s1.length H1 φ s.length H' ∧ Rel X.K φ s H' ∧ EnvR X.K φ s.length H' σ env ∧ lkOk lk s = true ∧ forL step lk (ds.drop i) env s = some (fl, env', s'),
      ⟨ds.length, by simp, Nat.zero_le _, φ1, env0, s1, Ext.refl, r1, e0.mono r0.cm x1, l1, h0⟩, ?_⟩
    rintro i m σ2 H2 ⟨rfl, hi', φ2, env2, s2, x2, r2, e2, l2, h2⟩
    by_cases hlt : i < ds.length
    · have hdi : ds[i]? = some ds[i] := List.getElem?_eq_getElem hlt
      obtain ⟨hgo, hy⟩ := (it φ2 s2 H2 x2 r2 l2 i).2 _ hdi
      rw [List.drop_eq_getElem_cons hlt] at h2
      unfold forL at h2
      refine .inr ⟨hgo, fun σ H' => i + 1 ≤ ds.length ∧ ∃ φ env s, Ext φ1 s1.length H1 φ s.length H' ∧ Rel X.K φ s H' ∧ EnvR X.K φ s.length H' σ env ∧ lkOk lk s = true ∧ forL step lk (ds.drop (i + 1)) env s = some (fl, env', s'),
        fun σ' H' z => ⟨_, by omega, rfl, z⟩, fun v H3 y => ?_⟩
      obtain ⟨φ3, x3, r3, hv⟩ := hy v H3 y
      have e3 := e2.mono r2.cm x3
      cases h4 : step ds[i] env2 s2 with
      | none => rw [h4] at h2; cases h2
      | some p =>
        obtain ⟨f4, env4, s4⟩ := p
        rw [h4] at h2
        rw [← hstep] at h4
        dsimp only at h4
        cases h5 : asgT t ds[i] env2 with
        | none => rw [h5] at h4; cases h4
        | some env5 =>
          rw [h5] at h4
          refine ⟨φ3, env2, s2, ds[i], env5, r3, e3, hv, h5, fun σ5 e5 _ => ?_⟩
          refine ⟨φ3, env5, s2, f4, env4, s4, r3, e5, h4, fun σ' H' φ' x' r' e' => ?_⟩
          have x13 := (x2.trans r2.cm x3).trans r3.cm x'
          have x03 := x1.trans r1.cm x13
          cases f4 with
          | nx =>
            have h2 : (if lkOk lk s4 then forL step lk (ds.drop (i + 1)) env4 s4 else none) = some (fl, env', s') := h2
            by_cases hl : lkOk lk s4 = true
            · rw [if_pos hl] at h2
              exact ⟨hlt, φ', env4, s4, x13, r', e', hl, h2⟩
            · rw [if_neg hl] at h2
              cases h2
          | ct =>
            have h2 : (if lkOk lk s4 then forL step lk (ds.drop (i + 1)) env4 s4 else none) = some (fl, env', s') := h2
            by_cases hl : lkOk lk s4 = true
            · rw [if_pos hl] at h2
              exact ⟨hlt, φ', env4, s4, x13, r', e', hl, h2⟩
            · rw [if_neg hl] at h2
              cases h2
          | bk => cases h2; exact q σ' H' φ' x03 r' e'
          | rt d => cases h2; exact q σ' H' φ' x03 r' e'
    · have hd0 : ds.drop i = [] := List.drop_eq_nil_of_le (by omega)
      rw [hd0] at h2
      cases h2
      exact .inl ⟨(it φ2 _ H2 x2 r2 l2 i).1 (by omega), q σ2 H2 φ2 (x1.trans r1.cm x2) r2 e2⟩
end
end Kp

/-! Kp, part M: the check that a program text is such a word. Own work. -/
namespace Kp
open PySem PySem.Spec PyProof.Rows L2

structure Ct where
  N : List Str
  sc : Scope
  fn : Str → Bool
structure Gi where
  fns : List FnE
  cons : List Str

def glB (ct : Ct) (x : Str) : Bool := decide (ct.sc.names.lookup x = some .globalImplicit)
def visB (ct : Ct) (x : Str) : Bool := decide (ct.sc.names.lookup x = some .local) || decide (ct.sc.names.lookup x = some .cell) || decide (ct.sc.names.lookup x = some .free)
def stoB (ct : Ct) (x : Str) : Bool := decide (ct.sc.names.lookup x = some .local) || (decide (ct.sc.names.lookup x = some .cell) && ct.fn x)
def okName (x : Str) : Bool := !(x == ("__debug__" : Str)) && !(x == ("__classdict__" : Str)) && decide (x ≠ ("__name__" : Str))
def conB (c : Const) (d : D) : Bool := match c, d with
  | .int i, .int j => decide (i = j)
  | .bool i, .bl j => decide (i = j)
  | .none, .non => true
  | .str x, .str y => decide (x = y) && x.cps.all (· < 0x110000)
  | _, _ => false
def opB : BOp → Operator → Bool
  | .add _, .Add => true
  | .sub, .Sub => true
  | .mul _, .Mult => true
  | .mod, .Mod => true
  | .fdiv, .FloorDiv => true
  | .pow, .Pow => true
  | _, _ => false
def iopB : BOp → Operator → Bool
  | .add _, .Add => true
  | .sub, .Sub => true
  | .mul _, .Mult => true
  | .mod, .Mod => true
  | .fdiv, .FloorDiv => true
  | _, _ => false
def cmpB : COp → CmpOp → Bool
  | .eq, .Eq => true
  | .ne, .NotEq => true
  | .lt, .Lt => true
  | .le, .LtE => true
  | .gt, .Gt => true
  | .ge, .GtE => true
  | .isin, .In => true
  | .notin, .NotIn => true
  | _, _ => false
def notStar : Expr → Bool
  | .Starred _ _ => false
  | _ => true
def notSlice : Expr → Bool
  | .Slice _ _ _ _ => false
  | _ => true
def notSet : Expr → Bool
  | .Set _ _ _ => false
  | _ => true
def notCall0 : Expr → Bool
  | .Call (.Name _ _) [] [] _ => false
  | _ => true
def biN : Bi → Str × Nat
  | .len => ("len", 1)
  | .abs => ("abs", 1)
  | .int => ("int", 1)
  | .min2 => ("min", 2)
  | .max2 => ("max", 2)
  | .maxl => ("max", 1)
  | .minl => ("min", 1)
  | .sum => ("sum", 1)
  | .sorted => ("sorted", 1)
  | .list => ("list", 1)
  | .tuple => ("tuple", 1)
  | _ => ("", 0)
def biB (b : Bi) (x : Str) (n : Nat) : Bool := decide (x = (biN b).1) && decide (n = (biN b).2) && decide (n ≠ 0)
def mtN : Mt → Str × Nat
  | .append => ("append", 1)
  | .pop => ("pop", 0)
  | .popAt => ("pop", 1)
  | .reverse => ("reverse", 0)
  | _ => ("", 40)
def mtB (m : Mt) (x : Str) (n : Nat) : Bool := decide (x = (mtN m).1) && decide (n = (mtN m).2) && decide (n < 30)
def bltNames : List Str := ["len", "abs", "int", "min", "max", "sum", "sorted", "list", "tuple", "range", "zip", "enumerate", "isinstance", "bool", "str"]
def ownP (ct : Ct) (own : List Nat) : List (Str × Nat) := own.map fun i => ((ct.N[i]?).getD ("" : Str), i)
def Ct.blk (ct : Ct) (scope : Scope) : Ct := ⟨ct.N, relS scope ct.sc, fun x => scope.names.lookup x == some .cell⟩
mutual
def chkTg (ct : Ct) : Tg → Expr → Bool
  | .nm i, e => match e with
    | .Name x _ => decide (ct.N[i]? = some x) && stoB ct x
    | _ => false
  | .tp n ts, e => match e with
    | .Tuple es _ _ => decide (es.length = n) && chkTgs ct ts es
    | _ => false
def chkTgs (ct : Ct) : List Tg → List Expr → Bool
  | [], es => match es with
    | [] => true
    | _ => false
  | t :: ts, es => match es with
    | e :: es => chkTg ct t e && chkTgs ct ts es
    | [] => false
end
mutual
def chkE (gi : Gi) (ct : Ct) : E → Expr → Bool
  | .var i, e => match e with
    | .Name x _ => decide (ct.N[i]? = some x) && visB ct x && okName x
    | _ => false
  | .con d, e => match e with
    | .Constant c _ _ => conB c d
    | _ => false
  | .glo i, e => match e with
    | .Name x _ => decide (gi.cons[i]? = some x) && glB ct x && okName x
    | _ => false
  | .bin o a b, e => match e with
    | .BinOp l op r _ => opB o op && chkE gi ct a l && chkE gi ct b r
    | _ => false
  | .neg a, e => match e with
    | .UnaryOp .USub x _ => chkE gi ct a x
    | _ => false
  | .not a, e => match e with
    | .UnaryOp .Not x _ => chkE gi ct a x
    | _ => false
  | .and as, e => match e with
    | .BoolOp .And es _ => !es.isEmpty && chkEs gi ct as es
    | _ => false
  | .or as, e => match e with
    | .BoolOp .Or es _ => !es.isEmpty && chkEs gi ct as es
    | _ => false
  | .cmp o a b, e => match e with
    | .Compare l [op] [r] _ => cmpB o op && !behindInMarks op r && chkE gi ct a l && chkE gi ct b r
    | _ => false
  | .chn o1 o2 a b c, e => match e with
    | .Compare l [op1, op2] [r1, r2] _ => cmpB o1 op1 && cmpB o2 op2 && !lastMarks [op1, op2] [r1, r2] && chkE gi ct a l && chkE gi ct b r1 && chkE gi ct c r2
    | _ => false
  | .ite c a b, e => match e with
    | .IfExp t x y _ => chkE gi ct c t && chkE gi ct a x && chkE gi ct b y
    | _ => false
  | .idx a b, e => match e with
    | .Subscript l r _ => notSlice r && chkE gi ct a l && chkE gi ct b r
    | _ => false
  | .slc _ a lo hi, e => match e with
    | .Subscript l (.Slice lo' hi' none _) _ => chkE gi ct a l && chkO gi ct lo lo' && chkO gi ct hi hi'
    | _ => false
  | .tup as, e => match e with
    | .Tuple es _ _ => chkEs gi ct as es
    | _ => false
  | .lst _ as, e => match e with
    | .List es _ => chkEs gi ct as es
    | _ => false
  | .call f as, e => match e with
    | .Call (.Name x _) args [] _ => (match gi.fns[f]? with
      | some fe => decide (fe.x = x)
      | none => false) && glB ct x && okName x && chkEs gi ct as args
    | _ => false
  | .callk f as ks nms perm, e => match e with
    | .Call (.Name x _) args kws _ => (match gi.fns[f]? with
      | some fe => decide (fe.x = x) && decide (KwE.mk args.length nms perm ∈ fe.kws)
      | none => false) && glB ct x && okName x && decide (kws.map (·.arg) = nms.map some) && chkEs gi ct as args && chkEs gi ct ks (kws.map (·.value))
    | _ => false
  | .bi b _ as, e => match e with
    | .Call (.Name x _) args [] _ => biB b x args.length && glB ct x && chkEs gi ct as args
    | _ => false
  | .rgl tu _ a, e => match e with
    | .Call (.Name x _) [.Call (.Name r _) [n] [] _] [] _ => decide (x = if tu then ("tuple" : Str) else ("list" : Str)) && decide (r = ("range" : Str)) && glB ct x && glB ct r && notStar n && chkE gi ct a n
    | _ => false
  | .mt m o as, e => match e with
    | .Call (.Attribute ov name apos) args [] pos => mtB m name args.length && (apos.endLine == pos.line) && notCall0 ov && chkE gi ct o ov && chkEs gi ct as args
    | _ => false
  | .isi a t, e => match e with
    | .Call (.Name x _) [v, .Name T _] [] _ => decide (x = ("isinstance" : Str)) && decide (T = Str.ofString (tyName t)) && glB ct x && glB ct T && notStar v && chkE gi ct a v
    | _ => false
  | .isn a, e => match e with
    | .Compare l [.Is] [.Constant .none _ _] _ => chkE gi ct a l
    | _ => false
  | .ntn a, e => match e with
    | .Compare l [.IsNot] [.Constant .none _ _] _ => chkE gi ct a l
    | _ => false
  | .lc _ own t it ifs el, e => match e with
    | .ListComp elt [⟨tg, iter, ifs', asy⟩] scope _ => decide (asy = 0) && blkC ct.N ct.sc scope (ownP ct own) && (slots t).all (own.contains ·) && notSet iter && chkI gi ct it tg iter && chkTg (ct.blk scope) t tg && decide (ifs'.length ≤ 1) && chkEs gi (ct.blk scope) ifs ifs' && chkE gi (ct.blk scope) el elt
    | _ => false
def chkEs (gi : Gi) (ct : Ct) : Es → List Expr → Bool
  | .nil, es => match es with
    | [] => true
    | _ => false
  | .cons a as, es => match es with
    | e :: es => notStar e && chkE gi ct a e && chkEs gi ct as es
    | [] => false
def chkO (gi : Gi) (ct : Ct) : Eo → Option Expr → Bool
  | .none, o => match o with
    | none => true
    | some _ => false
  | .some a, o => match o with
    | some e => chkE gi ct a e
    | none => false
def chkI (gi : Gi) (ct : Ct) : It → Expr → Expr → Bool
  | .seq a, _, e => chkE gi ct a e
  | .rng a, _, e => match e with
    | .Call (.Name x _) [n] [] _ => decide (x = ("range" : Str)) && glB ct x && notStar n && chkE gi ct a n
    | _ => false
  | .rng2 a b, _, e => match e with
    | .Call (.Name x _) [n, m] [] _ => decide (x = ("range" : Str)) && glB ct x && notStar n && notStar m && chkE gi ct a n && chkE gi ct b m
    | _ => false
  | .zip a b, tg, e => match tg, e with
    | .Tuple _ _ _, .Call (.Name x _) [n, m] [] _ => decide (x = ("zip" : Str)) && glB ct x && notStar n && notStar m && chkE gi ct a n && chkE gi ct b m
    | _, _ => false
  | .enum a, tg, e => match tg, e with
    | .Tuple _ _ _, .Call (.Name x _) [n] [] _ => decide (x = ("enumerate" : Str)) && glB ct x && notStar n && chkE gi ct a n
    | _, _ => false
end
/-- no comprehension's value goes to a name by the short way -/
def swB (ct : Ct) (v : Expr) (tg : Option Expr) : Bool := match v with
  | .ListComp _ _ s p => match tg with
    | none => false
    | some (.Name t pos) => !(decide (ct.sc.names.lookup t = some .local) && (pos.line == p.line) && !(s.names.any fun (n, k) => n == t && (k == .local || k == .cell)))
    | some _ => true
  | .SetComp _ _ _ _ => false
  | .DictComp _ _ _ _ _ => false
  | _ => true
def notTup : Expr → Bool
  | .Tuple _ _ _ => false
  | .List _ _ => false
  | _ => true
def isStarred : Expr → Bool
  | .Starred _ _ => true
  | _ => false
def parN (sc : Scope) (line : Nat) : Expr → Option Str
  | .Name id pos => if sc.names.lookup id == some .local && pos.line == line then some id else none
  | _ => none
def parB (sc : Scope) (ts vs : List Expr) (names : List Str) : Bool :=
  (ts.length == 2 || ts.length == 3) && (vs.length == ts.length) && decide (sc.kind = .function) && !(vs.any isStarred) && decide (ts.filterMap (parN sc ((ts.head?.map (·.pos.line)).getD 0)) = names) &&
    !(names.length != ts.length || names.eraseDups.length != names.length) && !(vs.all (foldedForSure 8)) && !(vs.all (constantsAlone 8))
def parT (ct : Ct) : List Nat → List Expr → Option (List Str)
  | [], [] => some []
  | i :: is, .Name x _ :: es => if decide (ct.N[i]? = some x) && decide (ct.sc.names.lookup x = some .local) then (parT ct is es).map (x :: ·) else none
  | _, _ => none
mutual
def chkS (gi : Gi) (ct : Ct) : St → Stmt → Bool
  | .asg t e, st => match st with
    | .Assign [tg] v pos => swB ct v (some tg) && (notTup tg || notTup v) && chkTg ct t tg && chkE gi ct e v
    | _ => false
  | .asgLc i _ own t it ifs el, st => match st with
    | .Assign [.Name y py] (.ListComp elt [⟨tg, iter, ifs', asy⟩] scope p) _ => decide (ct.N[i]? = some y) && decide (ct.sc.names.lookup y = some .local) && decide (ct.sc.kind = .function) && (py.line == p.line) && !(scope.names.any fun (n, k) => n == y && (k == .local || k == .cell)) &&
      decide (asy = 0) && blkC ct.N ct.sc scope (ownP ct own) && (slots t).all (own.contains ·) && notSet iter && chkI gi ct it tg iter && chkTg (ct.blk scope) t tg && decide (ifs'.length ≤ 1) && chkEs gi (ct.blk scope) ifs ifs' && chkE gi (ct.blk scope) el elt
    | _ => false
  | .par is as, st => match st with
    | .Assign [.Tuple ts _ _] (.Tuple vs _ _) _ => (match parT ct is ts with
      | some xs => parB ct.sc ts vs xs
      | none => false) && decide is.Nodup && chkEs gi ct as vs
    | _ => false
  | .sset o i e, st => match st with
    | .Assign [.Subscript ov iv _] v _ => swB ct v (some (.Subscript ov iv ⟨0, 0, 0, 0⟩)) && notSlice iv && chkE gi ct o ov && chkE gi ct i iv && chkE gi ct e v
    | _ => false
  | .aug i o e, st => match st with
    | .AugAssign (.Name x _) op v _ => decide (ct.N[i]? = some x) && stoB ct x && iopB o op && chkE gi ct e v
    | _ => false
  | .exp e, st => match st with
    | .Expr v _ => swB ct v none && chkE gi ct e v
    | _ => false
  | .ret e, st => match st with
    | .Return (some v) _ => chkE gi ct e v
    | _ => false
  | .retn, st => match st with
    | .Return none _ => true
    | _ => false
  | .ifs c a b, st => match st with
    | .If t x y _ => chkE gi ct c t && chkSs gi ct a x && chkSs gi ct b y
    | _ => false
  | .whl c b, st => match st with
    | .While t x [] _ => chkE gi ct c t && chkSs gi ct b x
    | _ => false
  | .fr t it b, st => match st with
    | .For tg iter x [] _ => notSet iter && chkTg ct t tg && chkI gi ct it tg iter && chkSs gi ct b x
    | _ => false
  | .brk, st => match st with
    | .Break _ => true
    | _ => false
  | .cnt, st => match st with
    | .Continue _ => true
    | _ => false
  | .pas, st => match st with
    | .Pass _ => true
    | _ => false
def chkSs (gi : Gi) (ct : Ct) : Ss → List Stmt → Bool
  | .nil, sts => match sts with
    | [] => true
    | _ => false
  | .cons s ss, sts => match sts with
    | st :: sts => chkS gi ct s st && chkSs gi ct ss sts
    | [] => false
end
end Kp

/-! Kp, part N: what is checked is so: expressions. Own work. -/
namespace Kp
open PySem PySem.Spec PyProof.Rows L2

structure CxOk (X : Cx) (ct : Ct) (gi : Gi) (G : List D) (cf : List CF) : Prop where
  hN : X.N = ct.N
  nd : X.N.Nodup
  sc : X.env.scope = ct.sc
  fn : ∀ x, ct.fn x = true → X.fn x = true
  calm : X.calm = true
  xe : X.xe = fun _ _ => False
  room : Room cf.length X.A
  cfok : CFOk X.prog X.w X.K X.mg X.base gi.fns cf
  blt : ∀ x ∈ bltNames, X.mg x = none
  con : ∀ (i : Nat) (x : Str) (d : D), gi.cons[i]? = some x → G[i]? = some d → ∃ v u, X.mg x = some u ∧ RelV v u ∧ ∀ φ n H, RV X.K φ n H v d
section
variable {X : Cx} {ct : Ct} {gi : Gi} {G : List D} {cf : List CF}
theorem CxOk.gl (c : CxOk X ct gi G cf) {x : Str} (h : glB ct x = true) : Gl X x := by
  unfold glB at h
  show X.env.scope.names.lookup x = _
  rw [c.sc]
  exact of_decide_eq_true h
theorem CxOk.vis (c : CxOk X ct gi G cf) {x : Str} (h : visB ct x = true) : Vis X.env.scope x := by
  unfold visB at h
  rw [c.sc]
  simp only [Bool.or_eq_true, decide_eq_true_eq] at h
  rcases h with (h | h) | h
  · exact .inl h
  · exact .inr (.inl h)
  · exact .inr (.inr h)
theorem CxOk.sto (c : CxOk X ct gi G cf) {x : Str} (h : stoB ct x = true) : Loc X.env.scope x ∧ (X.fn x = true ∨ X.env.scope.names.lookup x = some .local) := by
  unfold stoB at h
  rw [c.sc]
  simp only [Bool.or_eq_true, Bool.and_eq_true, decide_eq_true_eq] at h
  rcases h with h | ⟨h, h2⟩
  · exact ⟨.inl h, .inr h⟩
  · exact ⟨.inr h, .inl (c.fn x h2)⟩
theorem CxOk.at (c : CxOk X ct gi G cf) {i : Nat} {x : Str} (h : ct.N[i]? = some x) : X.N[i]? = some x := by rw [c.hN]; exact h
theorem CxOk.blk (c : CxOk X ct gi G cf) (scope : Scope) (s : Shared) (H : Hp) (C : Addr) (cl : List (Str × Addr)) (fp : List Addr) : CxOk (X.blk s H scope (compEnvC scope cl C X.env) fp) (ct.blk scope) gi G cf where
  hN := c.hN
  nd := c.nd
  sc := by
    show relS scope X.env.scope = relS scope ct.sc
    rw [c.sc]
  fn := fun x h => h
  calm := c.calm
  xe := rfl
  room := c.room
  cfok := c.cfok
  blt := c.blt
  con := c.con
theorem CxOk.un (c : CxOk X ct gi G cf) : X.A.units + 70 < cLine := by
  have h := c.room.un
  exact Nat.lt_of_le_of_lt (by omega) h
end
theorem okName_h {x : Str} (h : okName x = true) : (x == ("__debug__" : Str)) = false ∧ (x == ("__classdict__" : Str)) = false ∧ x ≠ ("__name__" : Str) := by
  unfold okName at h
  simp only [Bool.and_eq_true, Bool.not_eq_true', decide_eq_true_eq] at h
  exact ⟨h.1.1, h.1.2, h.2⟩
theorem star_ok {a : Expr} {es : List Expr} {env : PySem.Env} (h : notStar a = true) : starEach (a :: es) env = (false, eval a env) :: starEach es env := by
  cases a <;> first | rfl | cases h
theorem plain_ok {env : PySem.Env} {pos : Pos} : ∀ {es : List Expr}, es.all notStar = true → (backTo pos (starEach es env)).any (·.1) = false
  | [], _ => rfl
  | a :: es, h => by
    rw [List.all_cons, Bool.and_eq_true] at h
    rw [star_ok h.1]
    show (false || (backTo pos (starEach es env)).any (·.1)) = false
    rw [Bool.false_or]
    exact plain_ok h.2
theorem plain_all {env : PySem.Env} {pos : Pos} : ∀ {es : List Expr}, es.all notStar = true → (backTo pos (starEach es env)).all (fun x => !x.1) = true
  | [], _ => rfl
  | a :: es, h => by
    rw [List.all_cons, Bool.and_eq_true] at h
    rw [star_ok h.1]
    show (true && (backTo pos (starEach es env)).all (fun x => !x.1)) = true
    rw [Bool.true_and]
    exact plain_all h.2
theorem ix_plain {b : Expr} (h : notSlice b = true) : PlainIx b := by
  intro o i
  cases b <;> first | rfl | cases h
theorem set_plain {e : Expr} {env : PySem.Env} (h : notSet e = true) : ∀ x, foldedSetIterable e env x = pure x := by
  intro x
  cases e <;> first | rfl | cases h
theorem base_plain {o : Expr} {name : Str} {env : PySem.Env} {w : Sem Value} (h : notCall0 o = true) : attributeBase o name env w = w := by
  cases o with
  | Call f as ks p =>
    cases f with
    | Name id q =>
      cases as with
      | nil => cases ks with
        | nil => cases h
        | cons _ _ => rfl
      | cons _ _ => rfl
    | _ => rfl
  | _ => rfl
theorem kw_some {env : PySem.Env} {pos : Pos} : ∀ {kws : List Keyword} {nms : List Str}, kws.map (·.arg) = nms.map some →
    (backToKw pos (keywordEach kws env)).all (·.1.isSome) = true ∧ (backToKw pos (keywordEach kws env)).filterMap (·.1) = nms ∧ (backToKw pos (keywordEach kws env)).any (·.1.isNone) = false
  | [], [], _ => ⟨rfl, rfl, rfl⟩
  | [], _ :: _, h => by cases h
  | ⟨_, _, _⟩ :: _, [], h => by cases h
  | ⟨a, v, p⟩ :: kws, n :: nms, h => by
    rw [List.map_cons, List.map_cons] at h
    injection h with h1 h2
    have h1 : a = some n := h1
    subst h1
    obtain ⟨e1, e2, e3⟩ := kw_some (env := env) (pos := pos) h2
    refine ⟨?_, ?_, ?_⟩
    · show (true && (backToKw pos (keywordEach kws env)).all (·.1.isSome)) = true
      rw [e1]; rfl
    · show n :: (backToKw pos (keywordEach kws env)).filterMap (·.1) = n :: nms
      rw [e2]
    · show (false || (backToKw pos (keywordEach kws env)).any (·.1.isNone)) = false
      rw [e3]; rfl
def esLen : Es → Nat
  | .nil => 0
  | .cons _ es => esLen es + 1
section
variable {X : Cx} {ct : Ct} {gi : Gi} {G : List D} {cf : List CF}
theorem evs_len : ∀ {as : Es} {env : Env} {s : S} {z : List D × S}, evs G cf as env s = some z → z.1.length = esLen as
  | .nil, env, s, z, h => by
    have h : some (([] : List D), s) = some z := h
    cases h
    rfl
  | .cons a as, env, s, z, h => by
    have h : (bd (ev G cf a env s) fun x s1 => bd (evs G cf as env s1) fun xs s2 => some (x :: xs, s2)) = some z := h
    obtain ⟨x, s1, h1, h⟩ := bd_inv h
    obtain ⟨xs, s2, h2, h⟩ := bd_inv h
    cases h
    show xs.length + 1 = esLen as + 1
    have z := evs_len h2
    rw [show xs.length = esLen as from z]
theorem chkEs_len : ∀ {as : Es} {es : List Expr}, chkEs gi ct as es = true → es.length = esLen as ∧ es.all notStar = true
  | .nil, es, h => by
    cases es with
    | nil => exact ⟨rfl, rfl⟩
    | cons _ _ => unfold chkEs at h; cases h
  | .cons a as, es, h => by
    cases es with
    | nil => unfold chkEs at h; cases h
    | cons e es =>
      unfold chkEs at h
      simp only [Bool.and_eq_true] at h
      obtain ⟨z1, z2⟩ := chkEs_len h.2
      exact ⟨by show es.length + 1 = esLen as + 1; rw [z1], by rw [List.all_cons, h.1.1, z2]; rfl⟩
theorem se_no {e : Expr} {r : ER} (h : ∀ env s, r env s = none) : PE X e (tE X.K r) := ⟨fun pins s σ H Q I ⟨φ, env, st, d, s', _, _, q, _⟩ => by rw [h] at q; cases q⟩
theorem opB_ok {o : BOp} {op : Operator} (h : opB o op = true) : OpS X (binaryOp op) (binD o) := by
  cases o with
  | add mu => cases op <;> first | exact absurd h Bool.false_ne_true | exact os_add
  | sub => cases op <;> first | exact absurd h Bool.false_ne_true | exact os_sub
  | mul mu => cases op <;> first | exact absurd h Bool.false_ne_true | exact os_mul
  | mod => cases op <;> first | exact absurd h Bool.false_ne_true | exact os_mod
  | fdiv => cases op <;> first | exact absurd h Bool.false_ne_true | exact os_fdiv
  | pow => cases op <;> first | exact absurd h Bool.false_ne_true | exact os_pow
theorem cmpB_ok {o : COp} {op : CmpOp} (hu : X.A.units + 70 < cLine) (h : cmpB o op = true) : OpB X (compareOp op) (cmpD o) := by
  cases o with
  | eq => cases op <;> first | exact absurd h Bool.false_ne_true | exact ob_eq hu
  | ne => cases op <;> first | exact absurd h Bool.false_ne_true | exact ob_ne hu
  | lt => cases op <;> first | exact absurd h Bool.false_ne_true | exact ob_lt hu
  | le => cases op <;> first | exact absurd h Bool.false_ne_true | exact ob_le
  | gt => cases op <;> first | exact absurd h Bool.false_ne_true | exact ob_gt
  | ge => cases op <;> first | exact absurd h Bool.false_ne_true | exact ob_ge
  | isin => cases op <;> first | exact absurd h Bool.false_ne_true | exact ob_in hu
  | notin => cases op <;> first | exact absurd h Bool.false_ne_true | exact ob_notin hu
end
end Kp

/-! Kp, part O: what is checked is so: expressions. Own work. -/
namespace Kp
open PySem PySem.Spec PyProof.Rows L2
section
variable {X : Cx} {ct : Ct} {gi : Gi} {G : List D} {cf : List CF}
theorem con_ok {c : Const} {d : D} {k : Nat} {pos : Pos} (h : conB c d = true) : PE X (.Constant c k pos) (tE X.K fun _ s => some (d, s)) := by
  cases c with
  | none => cases d <;> first | exact se_c pe_non fun _ _ _ => .non | cases h
  | bool b => cases d with
    | bl j => cases of_decide_eq_true h; exact se_c pe_bl fun _ _ _ => .bl _
    | _ => cases h
  | int b => cases d with
    | int j => cases of_decide_eq_true h; exact se_c pe_int fun _ _ _ => .int _
    | _ => cases h
  | str b => cases d with
    | str j =>
      have h : (decide (b = j) && b.cps.all (· < 0x110000)) = true := h
      rw [Bool.and_eq_true] at h
      cases of_decide_eq_true h.1
      exact se_c pe_str fun _ _ _ => .str _ h.2
    | _ => cases h
  | _ => cases d <;> cases h
theorem okT {e : Expr} {r : ER} (h : PE X e (tE X.K r)) (he : ∀ whole, isTrue e X.env whole = (do let v ← whole; standAt e.pos; holding [v] (truthy v))) : PE X e (tE X.K r) ∧ PT X e (tT X.K r) := ⟨h, st_truth h he⟩
theorem fn_at (c : CxOk X ct gi G cf) {cc : CF} {rest : List CF} (e : cf = cc :: rest) {i : Nat} {fe : FnE} (h : gi.fns[i]? = some fe) : FnAt X.prog X.w X.K X.mg X.base cf.length fe (cc i) := by
  subst e
  exact c.cfok.1 i fe h
/-- a reading of an argument list, in all the ways in which it is read -/
structure EsOk (X : Cx) (G : List D) (cf : List CF) (as : Es) (es : List Expr) : Prop where
  pa : PA X es (tA X.K (evs G cf as))
  pk : ∀ kws : List Keyword, kws.map (·.value) = es → PK X kws (tA X.K (evs G cf as))
  ea : ∀ pos, es ≠ [] → PE X (.BoolOp .And es pos) (tE X.K (evand G cf as)) ∧ PW X (.BoolOp .And es pos) (tT X.K (evand G cf as))
  eo : ∀ pos, es ≠ [] → PE X (.BoolOp .Or es pos) (tE X.K (evor G cf as)) ∧ PW X (.BoolOp .Or es pos) (tT X.K (evor G cf as))
  et : es.length ≤ 1 → PTs X es (tQ X.K (evt G cf as))
theorem ok_call (c : CxOk X ct gi G cf) {f : Nat} {as : Es} {x : Str} {args : List Expr} {p pos : Pos} (hf : (match gi.fns[f]? with
      | some fe => decide (fe.x = x)
      | none => false) = true) (hg : glB ct x = true) (hn : okName x = true) (hs : chkEs gi ct as args = true) (ha : EsOk X G cf as args) : PE X (.Call (.Name x p) args [] pos) (tE X.K (ev G cf (.call f as))) := by
  cases hfe : gi.fns[f]? with
  | none => rw [hfe] at hf; cases hf
  | some fe =>
    rw [hfe] at hf
    have ex : fe.x = x := of_decide_eq_true hf
    subst ex
    obtain ⟨n1, n2, n3⟩ := okName_h hn
    cases hcf : cf with
    | nil =>
      refine se_no fun env s => ?_
      show (bd (evs G [] as env s) fun vs s1 => none) = none
      cases evs G [] as env s <;> rfl
    | cons cc rest =>
      have F := fn_at c hcf hfe
      have hr := c.room
      rw [hcf] at ha F hr
      cases args with
      | nil =>
        cases as with
        | nil =>
          show PE X _ (tE X.K fun env s => bd (some ([], s)) fun vs s1 => cc f vs s1)
          exact se_call0 F hr (c.gl hg) F.ari n1
        | cons _ _ => unfold chkEs at hs; cases hs
      | cons a es =>
        have ns := (chkEs_len hs).2
        rw [List.all_cons, Bool.and_eq_true] at ns
        exact se_call F hr (c.gl hg) F.ari n1 ha.pa (star_ok ns.1) (plain_ok ns.2)
theorem ok_callk (c : CxOk X ct gi G cf) {f : Nat} {as ks : Es} {nms : List Str} {perm : List Nat} {x : Str} {args : List Expr} {kws : List Keyword} {p pos : Pos} (hf : (match gi.fns[f]? with
      | some fe => decide (fe.x = x) && decide (KwE.mk args.length nms perm ∈ fe.kws)
      | none => false) = true) (hg : glB ct x = true) (hn : okName x = true) (hk : kws.map (·.arg) = nms.map some) (hs : chkEs gi ct as args = true) (hs2 : chkEs gi ct ks (kws.map (·.value)) = true)
    (ha : EsOk X G cf as args) (hb : EsOk X G cf ks (kws.map (·.value))) : PE X (.Call (.Name x p) args kws pos) (tE X.K (ev G cf (.callk f as ks nms perm))) := by
  cases hfe : gi.fns[f]? with
  | none => rw [hfe] at hf; cases hf
  | some fe =>
    rw [hfe] at hf
    have hf : (decide (fe.x = x) && decide (KwE.mk args.length nms perm ∈ fe.kws)) = true := hf
    rw [Bool.and_eq_true] at hf
    have ex : fe.x = x := of_decide_eq_true hf.1
    have em : KwE.mk args.length nms perm ∈ fe.kws := of_decide_eq_true hf.2
    subst ex
    obtain ⟨n1, n2, n3⟩ := okName_h hn
    obtain ⟨k1, k2, k3⟩ := kw_some (env := X.env) (pos := pos) hk
    have hl : kws.length = nms.length := by have := congrArg List.length hk; simpa using this
    cases hcf : cf with
    | nil =>
      refine se_no fun env s => ?_
      show (bd (evs G [] as env s) fun vs s1 => bd (evs G [] ks env s1) fun ws s2 => none) = none
      cases evs G [] as env s with
      | none => rfl
      | some z => rw [bd_some]; cases evs G [] ks env z.2 <;> rfl
    | cons cc rest =>
      have F := fn_at c hcf hfe
      have hr := c.room
      rw [hcf] at ha hb F hr
      have l2 : ∀ env s z, evs G (cc :: rest) ks env s = some z → z.1.length = nms.length := fun env s z h => by
        rw [evs_len h, ← (chkEs_len hs2).1, List.length_map, hl]
      cases args with
      | nil =>
        cases as with
        | nil => exact se_callk0 F em hr (c.gl hg) F.ari n1 (hb.pk kws rfl) k1 k2 (by rw [k3]; rfl) rfl l2
        | cons _ _ => unfold chkEs at hs; cases hs
      | cons a es =>
        have ns := (chkEs_len hs).2
        have ns' := ns
        rw [List.all_cons, Bool.and_eq_true] at ns
        exact se_callk F em hr (c.gl hg) F.ari n1 ha.pa (hb.pk kws rfl) k1 k2 (star_ok ns.1) (by rw [plain_ok ns', k3]; rfl) (fun env s z h => by rw [evs_len h, ← (chkEs_len hs).1]) l2
theorem ok_bi (c : CxOk X ct gi G cf) {b : Bi} {mu : Bool} {as : Es} {x : Str} {args : List Expr} {p pos : Pos} (hb : biB b x args.length = true) (hg : glB ct x = true) (hs : chkEs gi ct as args = true) (ha : EsOk X G cf as args) :
    PE X (.Call (.Name x p) args [] pos) (tE X.K (ev G cf (.bi b mu as))) := by
  have gl := c.gl hg
  have key : ∀ (id : String) (y : Str), y ∈ bltNames → bootBuiltins y = some (.builtin id) → y ≠ "__name__" → (y == ("__debug__" : Str)) = false → OpC X (.builtin id) (biD b mu) → x = y → args ≠ [] → PE X (.Call (.Name x p) args [] pos) (tE X.K (ev G cf (.bi b mu as))) := fun id y hy hbt h1 h2 hc e hne => by
    subst e
    cases args with
    | nil => exact absurd rfl hne
    | cons a es =>
      have ns := (chkEs_len hs).2
      rw [List.all_cons, Bool.and_eq_true] at ns
      exact se_callB hc gl (c.blt _ hy) hbt ha.pa h1 h2 (star_ok ns.1) (plain_ok ns.2)
  have keyT : ∀ (T : String) (y : Str), y ∈ bltNames → bootBuiltins y = some (.type T) → y ≠ "__name__" → (y == ("__debug__" : Str)) = false → OpC X (.type T) (biD b mu) → x = y → args ≠ [] → PE X (.Call (.Name x p) args [] pos) (tE X.K (ev G cf (.bi b mu as))) := fun id y hy hbt h1 h2 hc e hne => by
    subst e
    cases args with
    | nil => exact absurd rfl hne
    | cons a es =>
      have ns := (chkEs_len hs).2
      rw [List.all_cons, Bool.and_eq_true] at ns
      exact se_callTy hc gl (c.blt _ hy) hbt ha.pa h1 h2 (star_ok ns.1) (plain_ok ns.2)
  unfold biB at hb
  simp only [Bool.and_eq_true, decide_eq_true_eq] at hb
  obtain ⟨⟨hx, _⟩, hne⟩ := hb
  have ne : args ≠ [] := fun e => by subst e; exact hne rfl
  have hbl : (biN b).2 = 0 → False := fun e => by
    have : args.length = (biN b).2 := by assumption
    rw [e] at this
    exact hne this
  cases b with
  | len => exact key "len" "len" (by decide) boot_len (by decide) (by decide) oc_len hx ne
  | abs => exact key "abs" "abs" (by decide) boot_abs (by decide) (by decide) oc_abs hx ne
  | int => exact keyT "int" "int" (by decide) boot_int (by decide) (by decide) oc_int hx ne
  | min2 => exact key "min" "min" (by decide) boot_min (by decide) (by decide) (oc_min2 c.calm) hx ne
  | max2 => exact key "max" "max" (by decide) boot_max (by decide) (by decide) (oc_max2 c.calm) hx ne
  | maxl => exact key "max" "max" (by decide) boot_max (by decide) (by decide) (oc_maxl c.calm) hx ne
  | minl => exact key "min" "min" (by decide) boot_min (by decide) (by decide) (oc_minl c.calm) hx ne
  | sum => exact key "sum" "sum" (by decide) boot_sum (by decide) (by decide) (oc_sum c.calm) hx ne
  | sorted => exact key "sorted" "sorted" (by decide) boot_sorted (by decide) (by decide) (oc_sorted c.un) hx ne
  | list => exact keyT "list" "list" (by decide) boot_list (by decide) (by decide) oc_list hx ne
  | tuple => exact keyT "tuple" "tuple" (by decide) boot_tuple (by decide) (by decide) oc_tuple hx ne
  | listRg => exact (hbl rfl).elim
  | tupRg => exact (hbl rfl).elim
theorem ok_mt (c : CxOk X ct gi G cf) {m : Mt} {o : E} {as : Es} {ov : Expr} {name : Str} {args : List Expr} {apos pos : Pos} (hb : mtB m name args.length = true) (hl : (apos.endLine == pos.line) = true) (hc0 : notCall0 ov = true) (hs : chkEs gi ct as args = true) (ho : PE X ov (tE X.K (ev G cf o))) (ha : EsOk X G cf as args) :
    PE X (.Call (.Attribute ov name apos) args [] pos) (tE X.K (ev G cf (.mt m o as))) := by
  have key : ∀ {id : String} (slot : Slot "list" name id) (hty : typeOf (.builtin id) = pure (.type "method_descriptor")) (hm : OpM X id (mtD m)), PE X (.Call (.Attribute ov name apos) args [] pos) (tE X.K (ev G cf (.mt m o as))) := fun {id} slot hty hm => by
    cases args with
    | nil =>
      cases as with
      | nil => exact se_mt0 slot hty hm ho (base_plain hc0) hl
      | cons _ _ => unfold chkEs at hs; cases hs
    | cons a es =>
      have ns := (chkEs_len hs).2
      have ns' := ns
      rw [List.all_cons, Bool.and_eq_true] at ns
      unfold mtB at hb
      simp only [Bool.and_eq_true, decide_eq_true_eq] at hb
      have hfew : ((backTo pos (starEach (a :: es) X.env)).all (fun x => !x.1) && (backToKw pos (keywordEach [] X.env)).all (fun x => x.1.isSome)
        && decide ((a :: es).length + ([] : List Keyword).length + (if ([] : List Keyword).isEmpty then 0 else 1) < 30)) = true := by
        rw [plain_all ns']
        have z : (a :: es).length + ([] : List Keyword).length + (if ([] : List Keyword).isEmpty then 0 else 1) < 30 := hb.2
        rw [decide_eq_true z]
        rfl
      exact se_mt slot hty hm ho ha.pa (base_plain hc0) hfew hl (star_ok ns.1) (plain_ok ns.2)
  have hb' := hb
  unfold mtB at hb'
  simp only [Bool.and_eq_true, decide_eq_true_eq] at hb'
  obtain ⟨⟨hx, hn⟩, h30⟩ := hb'
  cases m with
  | append => subst hx; exact key PySem.F.slot_list_append PySem.F.type_list_append om_append
  | pop => subst hx; exact key PySem.F.slot_list_pop PySem.F.type_list_pop om_pop
  | popAt => subst hx; exact key PySem.F.slot_list_pop PySem.F.type_list_pop om_popAt
  | reverse => subst hx; exact key PySem.F.slot_list_reverse PySem.F.type_list_reverse om_reverse
  | insert => rw [hn] at h30; exact absurd h30 (by decide)
  | extend => rw [hn] at h30; exact absurd h30 (by decide)
  | index => rw [hn] at h30; exact absurd h30 (by decide)
theorem ty_boot (t : Ty) : Str.ofString (tyName t) ∈ bltNames ∧ bootBuiltins (Str.ofString (tyName t)) = some (.type (tyName t)) ∧ Str.ofString (tyName t) ≠ "__name__" ∧ (Str.ofString (tyName t) == ("__debug__" : Str)) = false := by
  cases t
  · exact ⟨by decide, boot_int, by decide, by decide⟩
  · exact ⟨by decide, boot_bool, by decide, by decide⟩
  · exact ⟨by decide, boot_str, by decide, by decide⟩
  · exact ⟨by decide, boot_tuple, by decide, by decide⟩
  · exact ⟨by decide, boot_list, by decide, by decide⟩
theorem ok_isi (c : CxOk X ct gi G cf) {a : E} {t : Ty} {v : Expr} {p p2 pos : Pos} (hg : glB ct ("isinstance" : Str) = true) (hgT : glB ct (Str.ofString (tyName t)) = true) (hs : notStar v = true) (ha : PE X v (tE X.K (ev G cf a))) :
    PE X (.Call (.Name "isinstance" p) [v, .Name (Str.ofString (tyName t)) p2] [] pos) (tE X.K (ev G cf (.isi a t))) := by
  obtain ⟨h1, h2, h3, h4⟩ := ty_boot t
  exact se_isi (c.gl hg) (c.blt _ (by decide)) (c.gl hgT) (c.blt _ h1) h2 h3 h4 ha (star_ok hs)
theorem ownP_snd {own : List Nat} : (ownP ct own).map (·.2) = own := by
  unfold ownP
  rw [List.map_map]
  exact List.map_id _
/-- what a comprehension is read as -/
theorem ev_lc {mu : Bool} {own : List Nat} {t : Tg} {it : It} {ifs : Es} {el : E} : ev G cf (.lc mu own t it ifs el) = fun env s => bd (evi G cf it env s) fun p s1 => bd (compL (stepL t own (evt G cf ifs) (ev G cf el) env) p.2 p.1 s1) (newL mu) := rfl
mutual
theorem tg_ok (c : CxOk X ct gi G cf) : ∀ {t : Tg} {e : Expr}, chkTg ct t e = true → PG X e (tG X.K t) ∧ notStar e = true
  | .nm i, e, h => by
    unfold chkTg at h
    split at h
    · rw [Bool.and_eq_true] at h
      obtain ⟨z1, z2⟩ := c.sto h.2
      exact ⟨sg_name c.nd (c.at (of_decide_eq_true h.1)) z1 z2, rfl⟩
    · cases h
  | .tp n ts, e, h => by
    unfold chkTg at h
    split at h
    · rw [Bool.and_eq_true] at h
      obtain ⟨z1, z2, z3⟩ := tgs_ok c h.2
      have hl : ∀ {es : List Expr} {env : PySem.Env}, es.all notStar = true → (assignEach es env).length = es.length ∧ (assignEach es env).findIdx? (·.1) = none := by
        intro es env hn
        induction es with
        | nil => exact ⟨rfl, rfl⟩
        | cons a es ih =>
          rw [List.all_cons, Bool.and_eq_true] at hn
          have e1 : assignEach (a :: es) env = (false, assign a env) :: assignEach es env := by
            have := hn.1
            cases a <;> first | rfl | cases this
          obtain ⟨i1, i2⟩ := ih hn.2
          rw [e1]
          refine ⟨by rw [List.length_cons, i1, List.length_cons], ?_⟩
          rw [List.findIdx?_cons, i2]
          rfl
      exact ⟨sg_tup c.calm z1 ((hl z2).1.trans (of_decide_eq_true h.1)) (hl z2).2, rfl⟩
    · cases h
theorem tgs_ok (c : CxOk X ct gi G cf) : ∀ {ts : List Tg} {es : List Expr}, chkTgs ct ts es = true → PGs X es (tGs X.K ts) ∧ es.all notStar = true ∧ True
  | [], es, h => by
    cases es with
    | nil => exact ⟨sgs_nil, rfl, trivial⟩
    | cons _ _ => unfold chkTgs at h; cases h
  | t :: ts, es, h => by
    cases es with
    | nil => unfold chkTgs at h; cases h
    | cons e es =>
      unfold chkTgs at h
      rw [Bool.and_eq_true] at h
      obtain ⟨z1, z2⟩ := tg_ok c h.1
      obtain ⟨y1, y2, _⟩ := tgs_ok c h.2
      refine ⟨sgs_cons z1 y1 ?_, by rw [List.all_cons, z2, y2]; rfl, trivial⟩
      cases e <;> first | rfl | cases z2
end
end
end Kp

/-! Kp, part P: what is checked is so: all expressions. Own work. -/
namespace Kp
open PySem PySem.Spec PyProof.Rows L2
section
variable {gi : Gi} {G : List D} {cf : List CF}
theorem ne_of {es : List Expr} (h : (!es.isEmpty) = true) : es ≠ [] := fun e => by subst e; cases h
theorem pe_of {X : Cx} {e : Expr} {r r' : ER} (h : PE X e (tE X.K r)) (k : r = r') : PE X e (tE X.K r') := k ▸ h
theorem es_nil {X : Cx} : EsOk X G cf .nil [] :=
  ⟨sa_nil, (fun kws h => by
    cases kws with
    | nil => exact sk_nil
    | cons _ _ => cases h), fun _ h => absurd rfl h, fun _ h => absurd rfl h, fun _ => sq_nil⟩
theorem es_cons {X : Cx} {a : E} {as : Es} {e : Expr} {es : List Expr} (hn : notStar e = true) (ha : PE X e (tE X.K (ev G cf a)) ∧ PT X e (tT X.K (ev G cf a))) (hr : EsOk X G cf as es) (hl : es = [] → as = .nil) (hl' : as = .nil → es = []) : EsOk X G cf (.cons a as) (e :: es) where
  pa := sa_cons ha.1 hr.pa (star_ok hn)
  pk := fun kws h => by
    cases kws with
    | nil => cases h
    | cons k kws =>
      obtain ⟨nm, v, p⟩ := k
      rw [List.map_cons] at h
      injection h with h1 h2
      have h1 : v = e := h1
      subst h1
      exact sk_cons ha.1 (hr.pk kws h2)
  ea := fun pos _ => by
    cases es with
    | nil =>
      cases hl rfl
      exact ⟨se_one ha.1, st_one_and ha.2⟩
    | cons b es =>
      cases as with
      | nil => cases hl' rfl
      | cons b' as' => exact ⟨se_and ha.1 (hr.ea pos (by simp)).1, st_and ha.2 (hr.ea pos (by simp)).2⟩
  eo := fun pos _ => by
    cases es with
    | nil =>
      cases hl rfl
      exact ⟨se_one ha.1, st_one_or ha.2⟩
    | cons b es =>
      cases as with
      | nil => cases hl' rfl
      | cons b' as' => exact ⟨se_or ha.1 (hr.eo pos (by simp)).1, st_or ha.2 (hr.eo pos (by simp)).2⟩
  et := fun hlen => by
    cases es with
    | nil =>
      cases hl rfl
      exact sq_one ha.2
    | cons b es => simp at hlen
theorem blk_ok {ct : Ct} {own : List Nat} {scope : Scope} {X : Cx} (c : CxOk X ct gi G cf) (h : blkC ct.N ct.sc scope (ownP ct own) = true) : BlkOk X.N X.env.scope scope (ownP ct own) := by
  rw [c.hN, c.sc]
  exact blkOk_by h
mutual
theorem e_ok : ∀ (ir : E) {X : Cx} {ct : Ct} {e : Expr}, CxOk X ct gi G cf → chkE gi ct ir e = true → PE X e (tE X.K (ev G cf ir)) ∧ PT X e (tT X.K (ev G cf ir))
  | .var i, X, ct, e, c, h => by
    unfold chkE at h
    split at h
    · simp only [Bool.and_eq_true, decide_eq_true_eq] at h
      obtain ⟨n1, n2, _⟩ := okName_h h.2
      exact okT (se_var (c.at h.1.1) (c.vis h.1.2) n1 n2) fun _ => rfl
    · cases h
  | .con d, X, ct, e, c, h => by
    unfold chkE at h
    split at h
    · exact okT (con_ok h) fun _ => rfl
    · cases h
  | .glo i, X, ct, e, c, h => by
    unfold chkE at h
    split at h
    · simp only [Bool.and_eq_true, decide_eq_true_eq] at h
      obtain ⟨n1, n2, _⟩ := okName_h h.2
      cases hd : G[i]? with
      | none =>
        refine okT (se_no fun env s => ?_) fun _ => rfl
        show (G[i]?).map (fun d => (d, s)) = none
        rw [hd]
        rfl
      | some d =>
        obtain ⟨v, u, m1, m2, m3⟩ := c.con i _ d h.1.1 hd
        refine okT (pe_of (se_c (pe_glob (c.gl h.1.2) m1 m2 n1) m3) ?_) fun _ => rfl
        funext env s
        show some (d, s) = (G[i]?).map (fun d => (d, s))
        rw [hd]
        rfl
    · cases h
  | .bin o a b, X, ct, e, c, h => by
    unfold chkE at h
    split at h
    · simp only [Bool.and_eq_true] at h
      exact okT (se_bin (opB_ok h.1.1) (e_ok a c h.1.2).1 (e_ok b c h.2).1) fun _ => rfl
    · cases h
  | .neg a, X, ct, e, c, h => by
    unfold chkE at h
    split at h
    · exact okT (se_neg (e_ok a c h).1) fun _ => rfl
    · cases h
  | .not a, X, ct, e, c, h => by
    unfold chkE at h
    split at h
    · exact ⟨se_not (e_ok a c h).1, st_not (e_ok a c h).2⟩
    · cases h
  | .and as, X, ct, e, c, h => by
    unfold chkE at h
    split at h
    · simp only [Bool.and_eq_true] at h
      exact ⟨((es_ok as c h.2).ea _ (ne_of h.1)).1, ((es_ok as c h.2).ea _ (ne_of h.1)).2.pt⟩
    · cases h
  | .or as, X, ct, e, c, h => by
    unfold chkE at h
    split at h
    · simp only [Bool.and_eq_true] at h
      exact ⟨((es_ok as c h.2).eo _ (ne_of h.1)).1, ((es_ok as c h.2).eo _ (ne_of h.1)).2.pt⟩
    · cases h
  | .cmp o a b, X, ct, e, c, h => by
    unfold chkE at h
    split at h
    · simp only [Bool.and_eq_true, Bool.not_eq_true'] at h
      exact ⟨se_cmp (cmpB_ok c.un h.1.1.1) (e_ok a c h.1.2).1 (e_ok b c h.2).1 h.1.1.2, st_cmp (cmpB_ok c.un h.1.1.1) (e_ok a c h.1.2).1 (e_ok b c h.2).1 h.1.1.2⟩
    · cases h
  | .chn o1 o2 a b d, X, ct, e, c, h => by
    unfold chkE at h
    split at h
    · simp only [Bool.and_eq_true, Bool.not_eq_true'] at h
      obtain ⟨⟨⟨⟨⟨h1, h2⟩, h3⟩, h4⟩, h5⟩, h6⟩ := h
      exact ⟨se_chn (cmpB_ok c.un h1) (cmpB_ok c.un h2) (e_ok a c h4).1 (e_ok b c h5).1 (e_ok d c h6).1 h3, st_chn (cmpB_ok c.un h1) (cmpB_ok c.un h2) (e_ok a c h4).1 (e_ok b c h5).1 (e_ok d c h6).1 h3⟩
    · cases h
  | .ite t a b, X, ct, e, c, h => by
    unfold chkE at h
    split at h
    · simp only [Bool.and_eq_true] at h
      exact ⟨se_ite (e_ok t c h.1.1).2 (e_ok a c h.1.2).1 (e_ok b c h.2).1, st_ite (e_ok t c h.1.1).2 (e_ok a c h.1.2).2 (e_ok b c h.2).2⟩
    · cases h
  | .idx a b, X, ct, e, c, h => by
    unfold chkE at h
    split at h
    · simp only [Bool.and_eq_true] at h
      exact okT (se_idx (e_ok a c h.1.2).1 (e_ok b c h.2).1 (ix_plain h.1.1)) fun _ => rfl
    · cases h
  | .slc mu a lo hi, X, ct, e, c, h => by
    unfold chkE at h
    split at h
    · simp only [Bool.and_eq_true] at h
      exact okT (se_slc (e_ok a c h.1.1).1 (o_ok lo c h.1.2) (o_ok hi c h.2)) fun _ => rfl
    · cases h
  | .tup as, X, ct, e, c, h => by
    unfold chkE at h
    split at h
    · exact okT (se_tup (es_ok as c h).pa) fun _ => rfl
    · cases h
  | .lst mu as, X, ct, e, c, h => by
    unfold chkE at h
    split at h
    · exact okT (se_lst (es_ok as c h).pa) fun _ => rfl
    · cases h
  | .call f as, X, ct, e, c, h => by
    unfold chkE at h
    split at h
    · simp only [Bool.and_eq_true] at h
      exact okT (ok_call c h.1.1.1 h.1.1.2 h.1.2 h.2 (es_ok as c h.2)) fun _ => rfl
    · cases h
  | .callk f as ks nms perm, X, ct, e, c, h => by
    unfold chkE at h
    split at h
    · simp only [Bool.and_eq_true] at h
      obtain ⟨⟨⟨⟨⟨h1, h2⟩, h3⟩, h4⟩, h5⟩, h6⟩ := h
      exact okT (ok_callk c h1 h2 h3 (of_decide_eq_true h4) h5 h6 (es_ok as c h5) (es_ok ks c h6)) fun _ => rfl
    · cases h
  | .bi b mu as, X, ct, e, c, h => by
    unfold chkE at h
    split at h
    · simp only [Bool.and_eq_true] at h
      exact okT (ok_bi c h.1.1 h.1.2 h.2 (es_ok as c h.2)) fun _ => rfl
    · cases h
  | .rgl tu mu a, X, ct, e, c, h => by
    unfold chkE at h
    split at h
    · simp only [Bool.and_eq_true, decide_eq_true_eq] at h
      obtain ⟨⟨⟨⟨⟨h1, h2⟩, h3⟩, h4⟩, h5⟩, h6⟩ := h
      subst h1
      subst h2
      cases tu with
      | true => exact okT (se_tupRg c.calm (c.gl h3) (c.blt _ (by decide)) (c.gl h4) (c.blt _ (by decide)) (e_ok a c h6).1 (star_ok h5)) fun _ => rfl
      | false => exact okT (se_listRg c.calm (c.gl h3) (c.blt _ (by decide)) (c.gl h4) (c.blt _ (by decide)) (e_ok a c h6).1 (star_ok h5)) fun _ => rfl
    · cases h
  | .mt m o as, X, ct, e, c, h => by
    unfold chkE at h
    split at h
    · simp only [Bool.and_eq_true] at h
      obtain ⟨⟨⟨⟨h1, h2⟩, h3⟩, h4⟩, h5⟩ := h
      exact okT (ok_mt c h1 h2 h3 h5 (e_ok o c h4).1 (es_ok as c h5)) fun _ => rfl
    · cases h
  | .isi a t, X, ct, e, c, h => by
    unfold chkE at h
    split at h
    · simp only [Bool.and_eq_true, decide_eq_true_eq] at h
      obtain ⟨⟨⟨⟨⟨h1, h2⟩, h3⟩, h4⟩, h5⟩, h6⟩ := h
      subst h1
      subst h2
      exact okT (ok_isi c h3 h4 h5 (e_ok a c h6).1) fun _ => rfl
    · cases h
  | .isn a, X, ct, e, c, h => by
    unfold chkE at h
    split at h
    · exact ⟨se_isn (e_ok a c h).1, st_isn (e_ok a c h).1⟩
    · cases h
  | .ntn a, X, ct, e, c, h => by
    unfold chkE at h
    split at h
    · exact ⟨se_ntn (e_ok a c h).1, st_ntn (e_ok a c h).1⟩
    · cases h
  | .lc mu own t it ifs el, X, ct, e, c, h => by
    unfold chkE at h
    split at h
    · simp only [Bool.and_eq_true] at h
      obtain ⟨⟨⟨⟨⟨⟨⟨⟨h1, h2⟩, h3⟩, h4⟩, h5⟩, h6⟩, h7⟩, h8⟩, h9⟩ := h
      have h1 := of_decide_eq_true h1
      subst h1
      have hsl : ∀ i ∈ slots t, i ∈ (ownP ct own).map (·.2) := fun i hi => by
        rw [ownP_snd]
        have := List.all_eq_true.mp h3 i hi
        simpa using this
      refine okT (pe_of (se_lc (mu := mu) c.calm c.nd (i_ok it c h5) (blk_ok c h2) (fun s H C cl fp => (tg_ok (c.blk _ s H C cl fp) h6).1) (fun s H C cl fp => (es_ok ifs (c.blk _ s H C cl fp) h8).et (of_decide_eq_true h7)) (fun s H C cl fp => (e_ok el (c.blk _ s H C cl fp) h9).1) (set_plain h4) hsl) ?_) fun _ => rfl
      rw [ownP_snd]
      rfl
    · cases h
theorem es_ok : ∀ (as : Es) {X : Cx} {ct : Ct} {es : List Expr}, CxOk X ct gi G cf → chkEs gi ct as es = true → EsOk X G cf as es
  | .nil, X, ct, es, c, h => by
    cases es with
    | nil => exact es_nil
    | cons _ _ => unfold chkEs at h; cases h
  | .cons a as, X, ct, es, c, h => by
    cases es with
    | nil => unfold chkEs at h; cases h
    | cons e es =>
      unfold chkEs at h
      simp only [Bool.and_eq_true] at h
      refine es_cons h.1.1 (e_ok a c h.1.2) (es_ok as c h.2) (fun e => ?_) fun e => ?_
      · subst e
        cases as with
        | nil => rfl
        | cons _ _ => have z := h.2; unfold chkEs at z; cases z
      · subst e
        cases es with
        | nil => rfl
        | cons _ _ => have z := h.2; unfold chkEs at z; cases z
theorem o_ok : ∀ (o : Eo) {X : Cx} {ct : Ct} {e : Option Expr}, CxOk X ct gi G cf → chkO gi ct o e = true → PO X e (tO X.K (evo G cf o))
  | .none, X, ct, e, c, h => by
    cases e with
    | none => exact so_none
    | some _ => unfold chkO at h; cases h
  | .some a, X, ct, e, c, h => by
    cases e with
    | none => unfold chkO at h; cases h
    | some e =>
      unfold chkO at h
      exact so_some (e_ok a c h).1
theorem i_ok : ∀ (it : It) {X : Cx} {ct : Ct} {tg e : Expr}, CxOk X ct gi G cf → chkI gi ct it tg e = true → PI X tg e (tI X.K (evi G cf it))
  | .seq a, X, ct, tg, e, c, h => by
    unfold chkI at h
    exact si_seq (e_ok a c h).1
  | .rng a, X, ct, tg, e, c, h => by
    unfold chkI at h
    split at h
    · simp only [Bool.and_eq_true, decide_eq_true_eq] at h
      obtain ⟨⟨⟨h1, h2⟩, h3⟩, h4⟩ := h
      subst h1
      exact si_rng (c.gl h2) (c.blt _ (by decide)) (e_ok a c h4).1 (star_ok h3)
    · cases h
  | .rng2 a b, X, ct, tg, e, c, h => by
    unfold chkI at h
    split at h
    · simp only [Bool.and_eq_true, decide_eq_true_eq] at h
      obtain ⟨⟨⟨⟨⟨h1, h2⟩, h3⟩, h4⟩, h5⟩, h6⟩ := h
      subst h1
      exact si_rng2 (c.gl h2) (c.blt _ (by decide)) (e_ok a c h5).1 (e_ok b c h6).1 (by rw [star_ok h3, star_ok h4]; rfl) (star_ok h4)
    · cases h
  | .zip a b, X, ct, tg, e, c, h => by
    unfold chkI at h
    split at h
    · simp only [Bool.and_eq_true, decide_eq_true_eq] at h
      obtain ⟨⟨⟨⟨⟨h1, h2⟩, h3⟩, h4⟩, h5⟩, h6⟩ := h
      subst h1
      exact si_zip (c.gl h2) (c.blt _ (by decide)) (e_ok a c h5).1 (e_ok b c h6).1 (star_ok h3) (star_ok h4) (by rw [star_ok h4]; rfl)
    · cases h
  | .enum a, X, ct, tg, e, c, h => by
    unfold chkI at h
    split at h
    · simp only [Bool.and_eq_true, decide_eq_true_eq] at h
      obtain ⟨⟨⟨h1, h2⟩, h3⟩, h4⟩ := h
      subst h1
      exact si_enum (c.gl h2) (c.blt _ (by decide)) (e_ok a c h4).1 (star_ok h3)
    · cases h
end
end
end Kp

/-! Kp, part Q: what is checked is so: statements, defs. Own work. -/
namespace Kp
open PySem PySem.Spec PyProof.Rows L2
section
variable {gi : Gi} {G : List D} {cf : List CF} {X : Cx} {ct : Ct}
theorem sw_ok (hsc : X.env.scope = ct.sc) {v tg : Expr} {l : Nat} (h : swB ct v (some tg) = true) : swapsWith v (some tg) l X.env = pure false := by
  cases v with
  | ListComp e g s p =>
    cases tg with
    | Name t pos =>
      have h : (!(decide (ct.sc.names.lookup t = some .local) && (pos.line == p.line) && !(s.names.any fun (n, k) => n == t && (k == .local || k == .cell)))) = true := h
      show (pure (X.env.blockKind == .function && X.env.kindOf t == some .local && pos.line == p.line && !(s.names.any fun (n, k) => n == t && (k == .local || k == .cell))) : Sem Bool) = pure false
      refine congrArg pure ?_
      have hk : (X.env.kindOf t == some NameKind.local) = decide (ct.sc.names.lookup t = some .local) := by
        show (X.env.scope.names.lookup t == some NameKind.local) = _
        rw [hsc]
        rw [Bool.eq_iff_iff, beq_iff_eq, decide_eq_true_eq]
      rw [hk]
      rw [Bool.not_eq_true'] at h
      rw [Bool.and_assoc, Bool.and_assoc]
      rw [Bool.and_assoc] at h
      rw [h, Bool.and_false]
    | _ => rfl
  | SetComp _ _ _ _ => cases h
  | DictComp _ _ _ _ _ => cases h
  | _ => rfl
theorem sw_none {v : Expr} {l : Nat} (h : swB ct v none = true) : swapsWith v none l X.env = pure false := by
  cases v <;> first | rfl | cases h
theorem no_par {tg v : Expr} (h : (notTup tg || notTup v) = true) (hs : notStar tg = true) : swappedStores [tg] v X.env = pure none := by
  cases tg <;> first | rfl | (cases v <;> first | rfl | cases h)
theorem par_ok (hsc : X.env.scope = ct.sc) {ts vs : List Expr} {k k2 : Nat} {p p2 : Pos} {xs : List Str} (h : parB ct.sc ts vs xs = true) : swappedStores [.Tuple ts k p] (.Tuple vs k2 p2) X.env = pure (some xs) := by
  unfold parB at h
  simp only [Bool.and_eq_true, Bool.not_eq_true', decide_eq_true_eq] at h
  obtain ⟨⟨⟨⟨⟨⟨⟨h1, h2⟩, h3⟩, h4⟩, h5⟩, h6⟩, h7⟩, h8⟩ := h
  have hb : (X.env.blockKind != .function) = false := by
    unfold Env.blockKind
    rw [hsc, h3]
    rfl
  have key : ∀ F : Expr → Option Str, (∀ x, F x = parN ct.sc ((ts.head?.map (·.pos.line)).getD 0) x) → ts.filterMap F = xs := fun F hF => by
    rw [← h5]
    exact congrArg (fun f => ts.filterMap f) (funext hF)
  have hS : ∀ F : Expr → Bool, (∀ x, F x = isStarred x) → vs.any F = false := fun F hF => by
    rw [← h4]
    exact congrArg (fun f => vs.any f) (funext hF)
  unfold swappedStores
  dsimp only
  rw [key]
  · rw [if_neg (by rw [hb, Bool.or_false]; simp [h1, bne, h2]), if_neg (by rw [hS]; exact Bool.false_ne_true; intro x; cases x <;> rfl), if_neg (by rw [h6]; exact Bool.false_ne_true), if_neg (by rw [h7]; exact Bool.false_ne_true), if_neg (by rw [h8]; exact Bool.false_ne_true)]
  · intro x
    cases x with
    | Name id pos =>
      show (if X.env.scope.names.lookup id == some .local && pos.line == _ then some id else none) = _
      rw [hsc]
      rfl
    | _ => rfl

theorem asg_one {tg : Expr} {env : PySem.Env} (h : notStar tg = true) : (assignEach [tg] env).map (·.2) = [assign tg env] := by
  cases tg <;> first | rfl | cases h
theorem sset_sw {v o i : Expr} {p p2 : Pos} {l : Nat} {env : PySem.Env} (h : swB ct v (some (.Subscript o i p)) = true) : swapsWithSole [.Subscript o i p2] v l env = pure false := by
  cases v <;> first | rfl | cases h
theorem sset_as {o i : Expr} {p : Pos} {env : PySem.Env} (h : notSlice i = true) (v : Value) : assign (.Subscript o i p) env v = (do
      let ov ← holding [v] (eval o env)
      let iv ← holding [v, ov] (eval i env)
      standAt p
      holding [v, ov, iv] (setItem ov iv v)
      release [v, ov, iv] []) := by
  cases i <;> first | rfl | cases h
theorem os_ipl {mu : Bool} : OpS X (inplaceOp .Add) (iopD (.add mu)) := by
  intro pins sh σ H x y v u Q φ s d e d' s' I rx ry r hx hy h hq
  cases d with
  | int i =>
    cases e with
    | int j =>
      cases hx; cases hy; cases h
      exact iop_add pins sh σ H _ _ v u Q I rx ry ⟨i, j, rfl, rfl, hq.now r (.int _)⟩
    | _ => cases h
  | str i =>
    cases e with
    | str j =>
      cases hx with
      | str _ o1 =>
        cases hy with
        | str _ o2 =>
          have h : (if i.length + j.length ≤ lim then some (D.str (i ++ j), s) else none) = some (d', s') := h
          by_cases hl : i.length + j.length ≤ lim
          · rw [if_pos hl] at h
            cases h
            exact iop_add_str pins sh σ H _ _ v u Q I rx ry ⟨i, j, rfl, rfl, lim_lt hl, hq.now r (.str _ (allOk_app o1 o2))⟩
          · rw [if_neg hl] at h
            cases h
    | _ => cases h
  | _ => cases h
theorem os_isub : OpS X (inplaceOp .Sub) (iopD .sub) := by
  intro pins sh σ H x y v u Q φ s d e d' s' I rx ry r hx hy h hq
  cases d with
  | int i =>
    cases e with
    | int j =>
      cases hx; cases hy; cases h
      exact iop_sub pins sh σ H _ _ v u Q I rx ry ⟨i, j, rfl, rfl, hq.now r (.int _)⟩
    | _ => cases h
  | _ => cases h
theorem os_imul {mu : Bool} : OpS X (inplaceOp .Mult) (iopD (.mul mu)) := by
  intro pins sh σ H x y v u Q φ s d e d' s' I rx ry r hx hy h hq
  cases d with
  | int i =>
    cases e with
    | int j =>
      cases hx; cases hy
      have h : (if smallI i || smallI j then some (D.int (i * j), s) else none) = some (d', s') := h
      by_cases hl : (smallI i || smallI j) = true
      · rw [if_pos hl] at h
        cases h
        exact iop_mul pins sh σ H _ _ v u Q I rx ry ⟨i, j, rfl, rfl, smallI_ok hl, hq.now r (.int _)⟩
      · rw [if_neg hl] at h
        cases h
    | _ => cases h
  | _ => cases h
theorem os_imod : OpS X (inplaceOp .Mod) (iopD .mod) := by
  intro pins sh σ H x y v u Q φ s d e d' s' I rx ry r hx hy h hq
  cases d with
  | int i =>
    cases e with
    | int j =>
      cases hx; cases hy
      have h : (if 0 < j then some (D.int (i % j), s) else none) = some (d', s') := h
      by_cases hl : 0 < j
      · rw [if_pos hl] at h
        cases h
        exact iop_mod pins sh σ H _ _ v u Q I rx ry ⟨i, j, rfl, rfl, hl, hq.now r (.int _)⟩
      · rw [if_neg hl] at h
        cases h
    | _ => cases h
  | _ => cases h
theorem os_ifdiv : OpS X (inplaceOp .FloorDiv) (iopD .fdiv) := by
  intro pins sh σ H x y v u Q φ s d e d' s' I rx ry r hx hy h hq
  cases d with
  | int i =>
    cases e with
    | int j =>
      cases hx; cases hy
      have h : (if 0 < j ∧ j < 1073741824 then some (D.int (i / j), s) else none) = some (d', s') := h
      by_cases hl : 0 < j ∧ j < 1073741824
      · rw [if_pos hl] at h
        cases h
        exact iop_fdiv pins sh σ H _ _ v u Q I rx ry ⟨i, j, rfl, rfl, hl, hq.now r (.int _)⟩
      · rw [if_neg hl] at h
        cases h
    | _ => cases h
  | _ => cases h
theorem iopB_ok {o : BOp} {op : Operator} (h : iopB o op = true) : OpS X (inplaceOp op) (iopD o) := by
  cases o with
  | add mu => cases op <;> first | exact absurd h Bool.false_ne_true | exact os_ipl
  | sub => cases op <;> first | exact absurd h Bool.false_ne_true | exact os_isub
  | mul mu => cases op <;> first | exact absurd h Bool.false_ne_true | exact os_imul
  | mod => cases op <;> first | exact absurd h Bool.false_ne_true | exact os_imod
  | fdiv => cases op <;> first | exact absurd h Bool.false_ne_true | exact os_ifdiv
  | pow => cases op <;> exact absurd h Bool.false_ne_true
theorem ps_of {st : Stmt} {r r' : SR} (h : PS X st (tS X.K r)) (k : r = r') : PS X st (tS X.K r') := k ▸ h
theorem parT_inv2 {i : Nat} {is : List Nat} {ts : List Expr} {xs : List Str} (h : parT ct (i :: is) ts = some xs) : ∃ x p es ys, ts = .Name x p :: es ∧ xs = x :: ys ∧ ct.N[i]? = some x ∧ ct.sc.names.lookup x = some .local ∧ parT ct is es = some ys := by
  cases ts with
  | nil => unfold parT at h; cases h
  | cons t es =>
    cases t with
    | Name x p =>
      have h : (if decide (ct.N[i]? = some x) && decide (ct.sc.names.lookup x = some .local) then (parT ct is es).map (x :: ·) else none) = some xs := h
      by_cases hh : (decide (ct.N[i]? = some x) && decide (ct.sc.names.lookup x = some .local)) = true
      · rw [if_pos hh] at h
        simp only [Bool.and_eq_true, decide_eq_true_eq] at hh
        cases hp : parT ct is es with
        | none => rw [hp] at h; cases h
        | some ys =>
          rw [hp] at h
          cases h
          exact ⟨x, p, es, ys, rfl, rfl, hh.1, hh.2, hp⟩
      · rw [if_neg hh] at h
        cases h
    | _ => cases h
theorem parT_nil {ts : List Expr} {xs : List Str} (h : parT ct [] ts = some xs) : ts = [] ∧ xs = [] := by
  cases ts with
  | nil => cases h; exact ⟨rfl, rfl⟩
  | cons t es => cases h
theorem ok_par (c : CxOk X ct gi G cf) {is : List Nat} {as : Es} {ts vs : List Expr} {k k2 : Nat} {p p2 pos : Pos} (hp : (match parT ct is ts with
      | some xs => parB ct.sc ts vs xs
      | none => false) = true) (hnd : is.Nodup) (hs : chkEs gi ct as vs = true) : PS X (.Assign [.Tuple ts k p] (.Tuple vs k2 p2) pos) (tS X.K (ex G cf (.par is as))) := by
  have ha := (es_ok as c hs).pa
  cases hx : parT ct is ts with
  | none => rw [hx] at hp; cases hp
  | some xs =>
    rw [hx] at hp
    have hw := par_ok (k := k) (k2 := k2) (p := p) (p2 := p2) c.sc hp
    have hp0 := hp
    unfold parB at hp
    simp only [Bool.and_eq_true, Bool.not_eq_true', decide_eq_true_eq] at hp
    have hlen := hp.1.1.1.1.1.1.1
    have hvl := hp.1.1.1.1.1.1.2
    rw [beq_iff_eq] at hvl
    simp only [Bool.or_eq_true, beq_iff_eq] at hlen
    match is, hx, hnd with
    | [], hx, _ =>
      obtain ⟨rfl, rfl⟩ := parT_nil hx
      simp at hlen
    | [i], hx, _ =>
      obtain ⟨x, q, es, ys, rfl, rfl, e1, e2, hx⟩ := parT_inv2 hx
      obtain ⟨rfl, rfl⟩ := parT_nil hx
      simp at hlen
    | [i, j], hx, nd =>
      obtain ⟨x, q, es, ys, rfl, rfl, e1, e2, hx⟩ := parT_inv2 hx
      obtain ⟨y, q', es, ys, rfl, rfl, e3, e4, hx⟩ := parT_inv2 hx
      obtain ⟨rfl, rfl⟩ := parT_nil hx
      match vs, hvl with
      | [a, b], _ =>
        have hij : i ≠ j := by simp at nd; exact nd
        exact ss_par2 c.calm c.nd (c.at e1) (c.at e3) hij (by rw [c.sc]; exact e2) (by rw [c.sc]; exact e4) ha hw rfl
    | [i, j, l], hx, nd =>
      obtain ⟨x, q, es, ys, rfl, rfl, e1, e2, hx⟩ := parT_inv2 hx
      obtain ⟨y, q', es, ys, rfl, rfl, e3, e4, hx⟩ := parT_inv2 hx
      obtain ⟨z, q'', es, ys, rfl, rfl, e5, e6, hx⟩ := parT_inv2 hx
      obtain ⟨rfl, rfl⟩ := parT_nil hx
      match vs, hvl with
      | [a, b, d], _ =>
        simp at nd
        exact ss_par3 c.calm c.nd (c.at e1) (c.at e3) (c.at e5) nd.1.1 nd.1.2 nd.2 (by rw [c.sc]; exact e2) (by rw [c.sc]; exact e4) (by rw [c.sc]; exact e6) ha hw rfl
    | i :: j :: l :: m :: is, hx, _ =>
      obtain ⟨x, q, es, ys, rfl, rfl, e1, e2, hx⟩ := parT_inv2 hx
      obtain ⟨y, q', es, ys, rfl, rfl, e3, e4, hx⟩ := parT_inv2 hx
      obtain ⟨z, q'', es, ys, rfl, rfl, e5, e6, hx⟩ := parT_inv2 hx
      obtain ⟨u, q3, es, ys, rfl, rfl, e5, e6, hx⟩ := parT_inv2 hx
      simp at hlen
mutual
theorem s_ok : ∀ (ir : St) {X : Cx} {ct : Ct} {st : Stmt}, CxOk X ct gi G cf → chkS gi ct ir st = true → PS X st (tS X.K (ex G cf ir))
  | .asg t a, X, ct, st, c, h => by
    unfold chkS at h
    split at h
    · simp only [Bool.and_eq_true] at h
      obtain ⟨⟨⟨h1, h2⟩, h3⟩, h4⟩ := h
      obtain ⟨z1, z2⟩ := tg_ok c h3
      refine ss_asg (e_ok a c h4).1 z1 (sw_ok c.sc h1) (no_par h2 z2) (asg_one z2)
    · cases h
  | .asgLc i mu own t it ifs el, X, ct, st, c, h => by
    unfold chkS at h
    split at h
    · simp only [Bool.and_eq_true] at h
      obtain ⟨⟨⟨⟨⟨⟨⟨⟨⟨⟨⟨⟨⟨g1, g2⟩, g3⟩, g4⟩, g5⟩, h1⟩, h2⟩, h3⟩, h4⟩, h5⟩, h6⟩, h7⟩, h8⟩, h9⟩ := h
      have h1 := of_decide_eq_true h1
      subst h1
      have hsl : ∀ i ∈ slots t, i ∈ (ownP ct own).map (·.2) := fun i hi => by
        rw [ownP_snd]
        have := List.all_eq_true.mp h3 i hi
        simpa using this
      have g2' := of_decide_eq_true g2
      rw [← c.sc] at g2'
      have g3' : X.env.scope.kind = .function := by rw [c.sc]; exact of_decide_eq_true g3
      rw [Bool.not_eq_true'] at g5
      refine ps_of (ss_asgLc (mu := mu) c.calm c.nd (c.at (of_decide_eq_true g1)) g2' (sw_true g3' g2' g4 g5) (i_ok it c h5) (blk_ok c h2) (fun s H C cl fp => (tg_ok (c.blk _ s H C cl fp) h6).1) (fun s H C cl fp => (es_ok ifs (c.blk _ s H C cl fp) h8).et (of_decide_eq_true h7)) (fun s H C cl fp => (e_ok el (c.blk _ s H C cl fp) h9).1) (set_plain h4) hsl) ?_
      rw [ownP_snd]
      rfl
    · cases h
  | .par is as, X, ct, st, c, h => by
    unfold chkS at h
    split at h
    · simp only [Bool.and_eq_true] at h
      exact ok_par c h.1.1 (of_decide_eq_true h.1.2) h.2
    · cases h
  | .sset o i a, X, ct, st, c, h => by
    unfold chkS at h
    split at h
    · simp only [Bool.and_eq_true] at h
      obtain ⟨⟨⟨⟨h1, h2⟩, h3⟩, h4⟩, h5⟩ := h
      exact ss_sset (e_ok a c h5).1 (e_ok o c h3).1 (e_ok i c h4).1 (sset_sw h1) rfl (sset_as h2)
    · cases h
  | .aug i o a, X, ct, st, c, h => by
    unfold chkS at h
    split at h
    · simp only [Bool.and_eq_true] at h
      obtain ⟨⟨⟨h1, h2⟩, h3⟩, h4⟩ := h
      obtain ⟨z1, z2⟩ := c.sto h2
      exact ss_aug c.nd (c.at (of_decide_eq_true h1)) z1 (e_ok a c h4).1 (iopB_ok h3) z2
    · cases h
  | .exp a, X, ct, st, c, h => by
    unfold chkS at h
    split at h
    · simp only [Bool.and_eq_true] at h
      exact ss_exp (e_ok a c h.2).1 (sw_none h.1)
    · cases h
  | .ret a, X, ct, st, c, h => by
    unfold chkS at h
    split at h
    · exact ss_ret (e_ok a c h).1
    · cases h
  | .retn, X, ct, st, c, h => by
    unfold chkS at h
    split at h
    · exact ss_retn
    · cases h
  | .ifs t a b, X, ct, st, c, h => by
    unfold chkS at h
    split at h
    · simp only [Bool.and_eq_true] at h
      exact ss_if (e_ok t c h.1.1).2 (ss_ok a c h.1.2) (ss_ok b c h.2)
    · cases h
  | .whl t b, X, ct, st, c, h => by
    unfold chkS at h
    split at h
    · simp only [Bool.and_eq_true] at h
      exact ss_while c.xe (e_ok t c h.1).2 (ss_ok b c h.2) wfuel
    · cases h
  | .fr t it b, X, ct, st, c, h => by
    unfold chkS at h
    split at h
    · simp only [Bool.and_eq_true] at h
      obtain ⟨⟨⟨h1, h2⟩, h3⟩, h4⟩ := h
      exact ss_for c.xe c.calm (i_ok it c h3) (tg_ok c h2).1 (ss_ok b c h4) (set_plain h1)
    · cases h
  | .brk, X, ct, st, c, h => by
    unfold chkS at h
    split at h
    · exact ss_brk
    · cases h
  | .cnt, X, ct, st, c, h => by
    unfold chkS at h
    split at h
    · exact ss_cnt
    · cases h
  | .pas, X, ct, st, c, h => by
    unfold chkS at h
    split at h
    · exact ss_pas
    · cases h
theorem ss_ok : ∀ (ir : Ss) {X : Cx} {ct : Ct} {sts : List Stmt}, CxOk X ct gi G cf → chkSs gi ct ir sts = true → PSs X sts (tS X.K (exs G cf ir))
  | .nil, X, ct, sts, c, h => by
    cases sts with
    | nil => exact sss_nil
    | cons _ _ => unfold chkSs at h; cases h
  | .cons s ss, X, ct, sts, c, h => by
    cases sts with
    | nil => unfold chkSs at h; cases h
    | cons st sts =>
      unfold chkSs at h
      rw [Bool.and_eq_true] at h
      exact sss_cons (s_ok s c h.1) (ss_ok ss c h.2)
end
end
end Kp

/-! Kp, part R: defs, all levels, the law. Own work. -/
namespace Kp
open PySem PySem.Spec PyProof.Rows L2
section
variable {K : PySem.W.Frag} {φ φ1 : Ph} {n n1 : Nat} {H H1 : Hp} {s s1 : S} {d : D} {ds : List D}
mutual
theorem RV.lowD : ∀ (d : D) {v : V}, RV K φ n H v d → low n d = true
  | .non, _, h => rfl
  | .bl b, _, h => rfl
  | .int i, _, h => rfl
  | .str y, _, h => rfl
  | .ref i, _, h => by cases h with
    | ref _ q => exact decide_eq_true q
  | .tup ds, _, h => by cases h with
    | tup q r => exact RVs.lowD ds r
  | .lst ds, _, h => by cases h with
    | lst q nc nf r => exact RVs.lowD ds r
  | .rol ds, _, h => by cases h with
    | rol q r => exact RVs.lowD ds r
theorem RVs.lowD : ∀ (ds : List D) {vs : List V}, RVs K φ n H vs ds → lows n ds = true
  | [], _, h => rfl
  | d :: ds, _, h => by cases h with
    | cons h r =>
      show (low n d && lows n ds) = true
      rw [RV.lowD d h, RVs.lowD ds r]
      rfl
end
mutual
theorem RV.down (hn : n1 ≤ n) : ∀ (d : D) {v : V}, low n1 d = true → RV K φ n H v d → RV K φ n1 H v d
  | .non, _, _, h => by cases h; exact .non
  | .bl b, _, _, h => by cases h; exact .bl b
  | .int i, _, _, h => by cases h; exact .int i
  | .str y, _, _, h => by cases h with
    | str _ q => exact .str y q
  | .ref i, _, l, h => by cases h with
    | ref _ q => exact .ref i (of_decide_eq_true l)
  | .tup ds, _, l, h => by cases h with
    | tup q r => exact .tup q (RVs.down hn ds l r)
  | .lst ds, _, l, h => by cases h with
    | lst q nc nf r => exact .lst q (fun i hi => nc i (by omega)) nf (RVs.down hn ds l r)
  | .rol ds, _, l, h => by cases h with
    | rol q r => exact .rol q (RVs.down hn ds l r)
theorem RVs.down (hn : n1 ≤ n) : ∀ (ds : List D) {vs : List V}, lows n1 ds = true → RVs K φ n H vs ds → RVs K φ n1 H vs ds
  | [], _, _, h => by cases h; exact .nil
  | d :: ds, _, l, h => by
    have l : (low n1 d && lows n1 ds) = true := l
    rw [Bool.and_eq_true] at l
    cases h with
    | cons h r => exact .cons (RV.down hn d l.1 h) (RVs.down hn ds l.2 r)
end
theorem fin_post {keep : Bool} {d' : D} {s' : S} {v : V} {Q : VK} (r : Rel K φ s H) (h : fin keep s d s1 = some (d', s')) (q : PostE K φ s.length H d' s' Q) (x : Ext φ s.length H φ1 s1.length H1) (r1 : Rel K φ1 s1 H1) (hv : RV K φ1 s1.length H1 v d) : Q v H1 := by
  unfold fin at h
  cases keep with
  | true =>
    rw [if_pos rfl] at h
    cases h
    exact q v H1 φ1 x r1 hv
  | false =>
    rw [if_neg Bool.false_ne_true] at h
    by_cases hc : low s.length (shut s.length s1 d) = true ∧ oldOk s s1
    · rw [if_pos hc] at h
      cases h
      obtain ⟨hl, ho⟩ := hc
      have hle := x.le
      have ht : (s1.take s.length).length = s.length := by rw [List.length_take]; omega
      have x2 : Ext φ s.length H φ1 (s1.take s.length).length H1 := by
        rw [ht]
        exact ⟨Nat.le_refl _, x.old, fun i h1 h2 => absurd h1 (by omega), x.keep, x.fk, x.ff⟩
      refine q v H1 φ1 x2 ⟨fun i j hi hj e => r1.inj i j (by omega) (by omega) e, fun i c e => ?_, fun a h => ⟨(r1.fo a h).1, fun i hi => (r1.fo a h).2 i (by omega)⟩⟩ ?_
      · rw [ht]
        have hi : i < s.length := by
          have := (List.getElem?_eq_some_iff.mp e).1
          omega
        rw [List.getElem?_take_of_lt hi] at e
        have z := r1.cell i c e
        have lowc : cellLow s.length c = true := by
          rcases ho i hi with h1 | ⟨c', h1, h2⟩
          · rw [e] at h1
            have y := r.cell i c h1.symm
            cases c with
            | lst es =>
              obtain ⟨vs, _, y2⟩ := y
              exact y2.lowD
            | dct _ => exact y.elim
            | ins _ _ => exact y.elim
          · rw [e] at h1
            cases h1
            exact h2
        cases c with
        | lst es =>
          obtain ⟨vs, z1, z2⟩ := z
          exact ⟨vs, z1, z2.down hle _ lowc⟩
        | dct _ => exact z.elim
        | ins _ _ => exact z.elim
      · rw [ht]
        cases d with
        | ref i =>
          unfold shut at hl ⊢
          by_cases hi : s.length ≤ i
          · simp only [if_pos hi] at hl ⊢
            cases hv with
            | ref _ hi1 =>
              cases e : s1[i]? with
              | none =>
                rw [List.getElem?_eq_none_iff] at e
                omega
              | some c =>
                have z := r1.cell i c e
                cases c with
                | lst es =>
                  rw [e] at hl
                  obtain ⟨vs, z1, z2⟩ := z
                  exact .lst z1 (fun j hj e2 => by have := r1.inj j i (by omega) hi1 e2; omega) (fun z => (r1.fo _ z).2 i hi1 rfl) (z2.down hle _ hl)
                | dct _ => exact z.elim
                | ins _ _ => exact z.elim
          · simp only [if_neg hi] at hl ⊢
            exact hv.down hle _ hl
        | _ => exact hv.down hle _ hl
    · rw [if_neg hc] at h
      cases h
end
theorem EnvR.start {K : PySem.W.Frag} {φ : Ph} {n : Nat} {H : Hp} {vs : List V} {ds : List D} (r : RVs K φ n H vs ds) (N : List Str) (nl : Nat) (hN : N.length = nl) : EnvR K φ n H (L2.start N vs) (ds.map some ++ List.replicate (nl - ds.length) none) := by
  unfold L2.start
  refine ⟨by simp only [List.length_append, List.length_map, List.length_replicate]; rw [r.length, hN], fun i d h => ?_⟩
  by_cases hi : i < ds.length
  · rw [List.getElem?_append_left (by simpa using hi), List.getElem?_map] at h
    cases e : ds[i]? with
    | none => rw [e] at h; cases h
    | some d' =>
      rw [e] at h
      cases h
      obtain ⟨v, h1, h2⟩ := r.get e
      refine ⟨v, ?_, h2⟩
      rw [List.getElem?_append_left (by simpa [r.length] using hi), List.getElem?_map, h1]
      rfl
  · rw [List.getElem?_append_right (by simpa using hi), List.getElem?_replicate] at h
    split at h <;> cases h
section
variable {P : Program} {w : World} {K : PySem.W.Frag} {mg : Str → Option Value} {base : Heap} {gi : Gi} {G : List D} {Ps : List Fn} {cf : List CF}
theorem runF_inv {f : Nat} {fn : Fn} {ds : List D} {s : S} {d : D} {s' : S} (hf : Ps[f]? = some fn) (h : runF G Ps cf f ds s = some (d, s')) :
    ds.length = fn.ps ∧ ∃ fl env' d1 s1, exs G cf fn.body (ds.map some ++ List.replicate (fn.nl - ds.length) none) s = some (fl, env', s1) ∧ (fl = .rt d1 ∨ (fl = .nx ∧ d1 = .non)) ∧ fin fn.keep s d1 s1 = some (d, s') := by
  unfold runF at h
  rw [hf] at h
  dsimp only at h
  by_cases hl : ds.length = fn.ps
  · rw [if_pos hl] at h
    refine ⟨hl, ?_⟩
    split at h
    · rename_i d1 e1 s1 e
      exact ⟨_, _, d1, s1, e, .inl rfl, h⟩
    · rename_i e1 s1 e
      exact ⟨_, _, .non, s1, e, .inr ⟨rfl, rfl⟩, h⟩
    · cases h
  · rw [if_neg hl] at h
    cases h
/-- THE RULE for a def of the text -/
theorem fn_ok {f : Nat} {fn : Fn} {fe : FnE} {x qual : Str} {st : Stmt} {fa : Addr} {fd : FuncData} {N : List Str} (hf : Ps[f]? = some fn) (F : Fun K x qual st fa fd) (S : FnScope N fe.ps (defScope st)) (hps : fe.ps.length = fn.ps) (hN : N.length = fn.nl)
    (chk : chkSs gi ⟨N, defScope st, fun _ => true⟩ fn.body (defBody st) = true) (cfok : CFOk P w K mg base gi.fns cf) (blt : ∀ x ∈ bltNames, mg x = none)
    (con : ∀ (i : Nat) (x : Str) (d : D), gi.cons[i]? = some x → G[i]? = some d → ∃ v u, mg x = some u ∧ RelV v u ∧ ∀ φ n H, RV K φ n H v d) :
    FnOk P w K mg base CX0 (cf.length + 1) fa fd fe.ps (spF K (runF G Ps cf f) fe.ps.length) := by
  refine F.ok S (fun vs H Q E h => h.1) (fun cdv A outer s H vs Q E hr h => ?_)
  obtain ⟨hl, φ, st0, ds, d, s', r, hv, hrun, hq⟩ := h
  obtain ⟨hlen, fl, env', d1, s1, hex, hfl, hfin⟩ := runF_inv hf hrun
  have c : CxOk (cxOf CX0 P w K mg base N qual (defScope st) fa cdv A outer s H E).nox ⟨N, defScope st, fun _ => true⟩ gi G cf :=
    ⟨rfl, S.nd, rfl, fun _ _ => rfl, rfl, rfl, hr, cfok, blt, con⟩
  refine ⟨_, ss_ok fn.body c chk, φ, _, st0, fl, env', s1, r, EnvR.start hv N fn.nl hN, hex, fun σ' H' φ' x' r' e' => ?_⟩
  rcases hfl with rfl | ⟨rfl, rfl⟩
  · exact fun v hv' => fin_post r hfin hq x' r' hv'
  · exact fin_post r hfin hq x' r' .non
/-- what is known of a def of the text -/
structure DefOk (K : PySem.W.Frag) (mg : Str → Option Value) (gi : Gi) (Ps : List Fn) (i : Nat) (fe : FnE) : Prop where
  ex : ∃ (fn : Fn) (x qual : Str) (st : Stmt) (fa : Addr) (fd : FuncData) (N : List Str), Ps[i]? = some fn ∧ Fun K x qual st fa fd ∧ FnScope N fe.ps (defScope st) ∧ fe.ps.length = fn.ps ∧ N.length = fn.nl ∧
    chkSs gi ⟨N, defScope st, fun _ => true⟩ fn.body (defBody st) = true ∧ mg fe.x = some (.ref fa) ∧ Binds K fd fe.ps [] ∧ ∀ e ∈ fe.kws, KBinds K fd fe.ps e.nms (gK e) (gK e)
theorem calls_ok (all : ∀ i fe, gi.fns[i]? = some fe → DefOk K mg gi Ps i fe) (blt : ∀ x ∈ bltNames, mg x = none)
    (con : ∀ (i : Nat) (x : Str) (d : D), gi.cons[i]? = some x → G[i]? = some d → ∃ v u, mg x = some u ∧ RelV v u ∧ ∀ φ n H, RV K φ n H v d) : ∀ n, CFOk P w K mg base gi.fns (calls G Ps n)
  | 0 => trivial
  | n + 1 => by
    have ih := calls_ok all blt con n
    refine ⟨fun i fe hi => ?_, ih⟩
    obtain ⟨fn, x, qual, st, fa, fd, N, h1, h2, h3, h4, h5, h6, h7, h8, h9⟩ := (all i fe hi).ex
    refine ⟨⟨fa, fd, fn_ok h1 h2 h3 h4 h5 h6 ih blt con, h7, h2.kp, h8, h9⟩, fun ds s z hz => ?_⟩
    rw [h4]
    exact (runF_inv h1 hz).1
theorem gK_vals : ∀ {vs : List V} {us : List Value} {perm : List Nat}, Vals vs us → ∀ {ws : List V}, perm.mapM (fun j => vs[j]?) = some ws → ∃ zs, perm.mapM (fun j => us[j]?) = some zs ∧ Vals ws zs
  | vs, us, [], r, ws, h => by cases h; exact ⟨[], rfl, .nil⟩
  | vs, us, j :: perm, r, ws, h => by
    rw [List.mapM_cons] at h
    cases h1 : vs[j]? with
    | none => rw [h1] at h; cases h
    | some d =>
      rw [h1] at h
      have h : (do let b ← perm.mapM (fun j => vs[j]?); some (d :: b)) = some ws := h
      cases h2 : perm.mapM (fun j => vs[j]?) with
      | none => rw [h2] at h; cases h
      | some us' =>
        rw [h2] at h
        cases h
        obtain ⟨u, e1, e2⟩ := r.get h1
        obtain ⟨zs, e3, e4⟩ := gK_vals (perm := perm) r h2
        refine ⟨u :: zs, ?_, .cons e2 e4⟩
        rw [List.mapM_cons, e1]
        show (do let b ← perm.mapM (fun j => us[j]?); some (u :: b)) = _
        rw [e3]
        rfl
theorem gK_none : ∀ {vs : List V} {us : List Value} {perm : List Nat}, Vals vs us → perm.mapM (fun j => vs[j]?) = none → perm.mapM (fun j => us[j]?) = none
  | vs, us, [], r, h => by cases h
  | vs, us, j :: perm, r, h => by
    rw [List.mapM_cons] at h ⊢
    cases h1 : vs[j]? with
    | none => rw [r.none_of h1]; rfl
    | some d =>
      rw [h1] at h
      obtain ⟨u, e1, e2⟩ := r.get h1
      rw [e1]
      have h : (do let b ← perm.mapM (fun j => vs[j]?); some (d :: b)) = none := h
      show (do let b ← perm.mapM (fun j => us[j]?); some (u :: b)) = none
      cases h2 : perm.mapM (fun j => vs[j]?) with
      | none => rw [gK_none (perm := perm) r h2]; rfl
      | some us' => rw [h2] at h; cases h
theorem gK_rel {e : KwE} {vs zs : List V} {us ws : List Value} (r : Vals vs us) (rz : Vals zs ws) : Vals (gK e vs zs) (gK e us ws) := by
  unfold gK
  rw [← r.length, ← rz.length]
  by_cases h : vs.length = e.np ∧ zs.length = e.nms.length
  · rw [if_pos h, if_pos h]
    cases h2 : e.perm.mapM (fun j => (vs ++ zs)[j]?) with
    | none => rw [gK_none (r.append rz) h2]; exact .nil
    | some l =>
      obtain ⟨l', e1, e2⟩ := gK_vals (r.append rz) h2
      rw [e1]
      exact e2
  · rw [if_neg h, if_neg h]
    exact .nil
/-- a call with keywords binds -/
theorem kb_of {fd : FuncData} {ps : List Str} {e : KwE} (hps : ps ≠ []) (h : ∀ us ws : List Value, us.length = e.np → ws.length = e.nms.length → bindArgs fd ⟨us, e.nms.zip ws⟩ = pure (ps.zip (gK e us ws))) : KBinds K fd ps e.nms (gK e) (gK e) where
  to := fun s us ws _ hl => by
    by_cases hh : us.length = e.np ∧ ws.length = e.nms.length
    · exact .of_eq (h us ws hh.1 hh.2)
    · unfold gK at hl
      rw [if_neg hh] at hl
      exact absurd (List.length_eq_zero_iff.mp hl.symm) hps
  rel := gK_rel
/-- the law's own promise: the script is a read-only list -/
theorem law_sp {c : CF} {rest : List CF} {i : Nat} {H : Hp} {a : Addr} {ns : List Int} (hS : SqL K H a (ns.map V.int)) (hO : ∀ b xs, H b = some (.lst xs) → False) (hc : ∃ s', c i [.rol (ns.map D.int)] [] = some (.bl true, s')) :
    spF K (c i) 1 [.ref a] H (fun v _ => v = .bl true) fun _ _ _ => False := by
  obtain ⟨s', hc⟩ := hc
  refine ⟨rfl, ⟨fun _ => 0, fun _ => False⟩, [], [.rol (ns.map D.int)], .bl true, s', ⟨fun i j hi => absurd hi (Nat.not_lt_zero _), fun i c e => by simp at e, fun a h => h.elim⟩, .cons (.rol ?_ (RVs.ints ns)) .nil, hc, fun v H' φ' _ _ hv => by cases hv; rfl⟩
  rcases hS with hS | hS
  · rcases hS with hS | ⟨o, hS⟩
    · exact (hO _ _ hS).elim
    · exact .inl ⟨o, hS⟩
  · exact .inr (.inr hS)
end
end Kp

namespace Kp
open PySem PySem.Spec PyProof.Rows L2
/-! the words of the text: printed by gen.py -/
def n_is_number : List Str := ["value", "low", "high"]
def w_is_number : Fn := ⟨3, 3, (
  .cons (.ret (.and (.cons (.isi (.var 0) .tint) (.cons (.not (.isi (.var 0) .tbool)) (.cons (.chn .le .le (.var 1) (.var 0) (.var 2)) .nil))))) .nil), false⟩
def n_parts_of_grade : List Str := ["value", "right"]
def w_parts_of_grade : Fn := ⟨1, 2, (
  .cons (.asg (.nm 1) (.and (.cons (.cmp .eq (.bi .len false (.cons (.var 0) .nil)) (.con (.int 3))) (.cons (.call 0 (.cons (.idx (.var 0) (.con (.int 1))) (.cons (.con (.int 0)) (.cons (.bin .sub (.glo 0) (.con (.int 1))) .nil)))) (.cons (.call 0 (.cons (.idx (.var 0) (.con (.int 2))) (.cons (.con (.int 0)) (.cons (.con (.int 6)) .nil)))) .nil))))) (
  .cons (.ret (.ite (.var 1) (.con (.int 1)) (.con (.int 0)))) .nil)), false⟩
def n_parts_of_points : List Str := ["value"]
def w_parts_of_points : Fn := ⟨1, 1, (
  .cons (.ret (.ite (.and (.cons (.cmp .eq (.bi .len false (.cons (.var 0) .nil)) (.con (.int 2))) (.cons (.call 0 (.cons (.idx (.var 0) (.con (.int 1))) (.cons (.con (.int 0)) (.cons (.glo 1) .nil)))) .nil))) (.con (.int 1)) (.con (.int 0)))) .nil), false⟩
def n_parts_of_many : List Str := ["value", "levels", "many", "part", "within"]
def w_parts_of_many : Fn := ⟨2, 5, (
  .cons (.ifs (.or (.cons (.cmp .ne (.bi .len false (.cons (.var 0) .nil)) (.con (.int 2))) (.cons (.not (.isi (.idx (.var 0) (.con (.int 1))) .ttuple)) .nil))) (
    .cons (.ret (.con (.int 0))) .nil) .nil) (
  .cons (.asg (.nm 2) (.con (.int 1))) (
  .cons (.fr (.nm 3) (.seq (.idx (.var 0) (.con (.int 1)))) (
    .cons (.asg (.nm 4) (.call 4 (.cons (.var 3) (.cons (.bin .sub (.var 1) (.con (.int 1))) .nil)))) (
    .cons (.ifs (.cmp .eq (.var 4) (.con (.int 0))) (
      .cons (.ret (.con (.int 0))) .nil) .nil) (
    .cons (.aug 2 (.add false) (.var 4)) .nil)))) (
  .cons (.ret (.var 2)) .nil)))), false⟩
def n_parts_of : List Str := ["value", "levels"]
def w_parts_of : Fn := ⟨2, 2, (
  .cons (.ifs (.or (.cons (.cmp .eq (.var 1) (.con (.int 0))) (.cons (.not (.isi (.var 0) .ttuple)) (.cons (.not (.var 0)) .nil)))) (
    .cons (.ret (.con (.int 0))) .nil) .nil) (
  .cons (.ifs (.cmp .eq (.idx (.var 0) (.con (.int 0))) (.con (.str "grade"))) (
    .cons (.ret (.call 1 (.cons (.var 0) .nil))) .nil) .nil) (
  .cons (.ifs (.cmp .eq (.idx (.var 0) (.con (.int 0))) (.con (.str "points"))) (
    .cons (.ret (.call 2 (.cons (.var 0) .nil))) .nil) .nil) (
  .cons (.ifs (.or (.cons (.cmp .eq (.idx (.var 0) (.con (.int 0))) (.con (.str "and"))) (.cons (.cmp .eq (.idx (.var 0) (.con (.int 0))) (.con (.str "or"))) .nil))) (
    .cons (.ret (.call 3 (.cons (.var 0) (.cons (.var 1) .nil)))) .nil) .nil) (
  .cons (.ret (.con (.int 0))) .nil))))), false⟩
def n_check_condition : List Str := ["value"]
def w_check_condition : Fn := ⟨1, 1, (
  .cons (.ret (.chn .le .le (.con (.int 1)) (.call 4 (.cons (.var 0) (.cons (.glo 2) .nil))) (.glo 3))) .nil), false⟩
def n__law_flow : List Str := ["script", "cell"]
def w__law_flow : Fn := ⟨1, 2, (
  .cons (.ret (.lst true (.cons (.con (.int 0)) (.cons (.con (.int 0)) (.cons (.con (.int 0)) (.cons (.con (.int 0)) (.cons (.bin (.add false) (.lc false [1] (.nm 1) (.seq (.slc false (.var 0) .none (.some (.con (.int 63))))) .nil (.bi .abs false (.cons (.bi .int false (.cons (.var 1) .nil)) .nil))) (.lst false (.cons (.con (.int 7)) .nil))) .nil))))))) .nil), true⟩
def n__law_draw : List Str := ["flow", "many", "cells", "digit", "cell", "first", "second"]
def w__law_draw : Fn := ⟨2, 7, (
  .cons (.sset (.var 0) (.con (.int 3)) (.bin (.add false) (.idx (.var 0) (.con (.int 3))) (.con (.int 1)))) (
  .cons (.asg (.nm 2) (.idx (.var 0) (.con (.int 4)))) (
  .cons (.ifs (.and (.cons (.cmp .eq (.idx (.var 0) (.con (.int 1))) (.con (.int 0))) (.cons (.cmp .eq (.bin .mod (.bi .int false (.cons (.idx (.var 2) (.con (.int 0))) .nil)) (.con (.int 2))) (.con (.int 0))) (.cons (.cmp .lt (.idx (.var 0) (.con (.int 2))) (.bi .len false (.cons (.var 2) .nil))) (.cons (.cmp .ge (.idx (.var 2) (.idx (.var 0) (.con (.int 2)))) (.bin .pow (.con (.int 10)) (.con (.int 18)))) .nil))))) (
    .cons (.sset (.var 0) (.con (.int 0)) (.bin .fdiv (.idx (.var 2) (.idx (.var 0) (.con (.int 2)))) (.con (.int 2)))) (
    .cons (.sset (.var 0) (.con (.int 1)) (.con (.int 60))) (
    .cons (.sset (.var 0) (.con (.int 2)) (.bin (.add false) (.idx (.var 0) (.con (.int 2))) (.con (.int 1)))) .nil))) .nil) (
  .cons (.ifs (.cmp .gt (.idx (.var 0) (.con (.int 1))) (.con (.int 0))) (
    .cons (.asg (.nm 3) (.bin .mod (.bi .int false (.cons (.idx (.var 0) (.con (.int 0))) .nil)) (.var 1))) (
    .cons (.sset (.var 0) (.con (.int 0)) (.bin .fdiv (.idx (.var 0) (.con (.int 0))) (.var 1))) (
    .cons (.sset (.var 0) (.con (.int 1)) (.bin (.mul false) (.bin .sub (.idx (.var 0) (.con (.int 1))) (.con (.int 1))) (.bi .int false (.cons (.cmp .gt (.idx (.var 0) (.con (.int 0))) (.con (.int 0))) .nil)))) (
    .cons (.ret (.var 3)) .nil)))) .nil) (
  .cons (.asg (.nm 4) (.idx (.var 2) (.bin .mod (.bi .int false (.cons (.idx (.var 0) (.con (.int 3))) .nil)) (.bi .len false (.cons (.var 2) .nil))))) (
  .cons (.sset (.var 0) (.con (.int 2)) (.bin (.add false) (.idx (.var 0) (.con (.int 2))) (.bi .int false (.cons (.cmp .lt (.idx (.var 2) (.bi .min2 false (.cons (.idx (.var 0) (.con (.int 2))) (.cons (.bin .sub (.bi .len false (.cons (.var 2) .nil)) (.con (.int 1))) .nil)))) (.bin .pow (.con (.int 10)) (.con (.int 18)))) .nil)))) (
  .cons (.asg (.nm 5) (.bin .mod (.bi .int false (.cons (.bin (.add false) (.bin (.add false) (.bin (.mul false) (.var 4) (.con (.int 48271))) (.bin (.mul false) (.idx (.var 0) (.con (.int 3))) (.con (.int 69621)))) (.con (.int 5))) .nil)) (.con (.int 2147483647)))) (
  .cons (.asg (.nm 6) (.bin .mod (.bi .int false (.cons (.bin (.add false) (.bin (.mul false) (.var 5) (.var 5)) (.bin (.mul false) (.idx (.var 0) (.con (.int 3))) (.con (.int 40692)))) .nil)) (.con (.int 2147483399)))) (
  .cons (.ret (.bin .mod (.bi .int false (.cons (.bin .fdiv (.bin .mod (.bi .int false (.cons (.bin (.add false) (.bin (.mul false) (.var 6) (.var 6)) (.var 5)) .nil)) (.con (.int 2147483647))) (.con (.int 8))) .nil)) (.var 1))) .nil))))))))), false⟩
def n__law_pick : List Str := ["flow", "things"]
def w__law_pick : Fn := ⟨2, 2, (
  .cons (.ret (.idx (.var 1) (.call 7 (.cons (.var 0) (.cons (.bi .len false (.cons (.var 1) .nil)) .nil))))) .nil), false⟩
def n__law_same : List Str := ["found", "due", "k"]
def w__law_same : Fn := ⟨2, 3, (
  .cons (.ifs (.isn (.var 1)) (
    .cons (.ret (.isn (.var 0))) .nil) .nil) (
  .cons (.ifs (.or (.cons (.isi (.var 1) .tbool) (.cons (.isi (.var 0) .tbool) .nil))) (
    .cons (.ret (.and (.cons (.isi (.var 1) .tbool) (.cons (.isi (.var 0) .tbool) (.cons (.cmp .eq (.var 0) (.var 1)) .nil))))) .nil) .nil) (
  .cons (.ifs (.isi (.var 1) .tint) (
    .cons (.ret (.and (.cons (.isi (.var 0) .tint) (.cons (.cmp .eq (.var 0) (.var 1)) .nil)))) .nil) .nil) (
  .cons (.ifs (.isi (.var 1) .tstr) (
    .cons (.ret (.and (.cons (.isi (.var 0) .tstr) (.cons (.cmp .eq (.var 0) (.var 1)) .nil)))) .nil) .nil) (
  .cons (.ifs (.or (.cons (.not (.isi (.var 1) .ttuple)) (.cons (.not (.isi (.var 0) .ttuple)) (.cons (.cmp .ne (.bi .len false (.cons (.var 0) .nil)) (.bi .len false (.cons (.var 1) .nil))) .nil)))) (
    .cons (.ret (.con (.bl false))) .nil) .nil) (
  .cons (.fr (.nm 2) (.rng (.bi .len false (.cons (.var 1) .nil))) (
    .cons (.ifs (.not (.call 9 (.cons (.idx (.var 0) (.var 2)) (.cons (.idx (.var 1) (.var 2)) .nil)))) (
      .cons (.ret (.con (.bl false))) .nil) .nil) .nil)) (
  .cons (.ret (.con (.bl true))) .nil))))))), false⟩
def n__law_is_number : List Str := ["value", "low", "high"]
def w__law_is_number : Fn := ⟨3, 3, (
  .cons (.ret (.and (.cons (.isi (.var 0) .tint) (.cons (.not (.isi (.var 0) .tbool)) (.cons (.chn .le .le (.var 1) (.var 0) (.var 2)) .nil))))) .nil), false⟩
def n__law_size : List Str := ["value", "depth", "sizes", "part", "size"]
def w__law_size : Fn := ⟨2, 5, (
  .cons (.ifs (.or (.cons (.cmp .eq (.var 1) (.con (.int 0))) (.cons (.not (.isi (.var 0) .ttuple)) (.cons (.cmp .eq (.var 0) (.tup .nil)) (.cons (.not (.isi (.idx (.var 0) (.con (.int 0))) .tstr)) .nil))))) (
    .cons (.ret (.tup (.cons (.con (.int 0)) (.cons (.con (.int 0)) .nil)))) .nil) .nil) (
  .cons (.ifs (.cmp .eq (.idx (.var 0) (.con (.int 0))) (.con (.str "grade"))) (
    .cons (.ret (.ite (.and (.cons (.cmp .eq (.bi .len false (.cons (.var 0) .nil)) (.con (.int 3))) (.cons (.call 10 (.cons (.idx (.var 0) (.con (.int 1))) (.cons (.con (.int 0)) (.cons (.con (.int 7)) .nil)))) (.cons (.call 10 (.cons (.idx (.var 0) (.con (.int 2))) (.cons (.con (.int 0)) (.cons (.con (.int 6)) .nil)))) .nil)))) (.tup (.cons (.con (.int 1)) (.cons (.con (.int 1)) .nil))) (.tup (.cons (.con (.int 0)) (.cons (.con (.int 0)) .nil))))) .nil) .nil) (
  .cons (.ifs (.cmp .eq (.idx (.var 0) (.con (.int 0))) (.con (.str "points"))) (
    .cons (.ret (.ite (.and (.cons (.cmp .eq (.bi .len false (.cons (.var 0) .nil)) (.con (.int 2))) (.cons (.call 10 (.cons (.idx (.var 0) (.con (.int 1))) (.cons (.con (.int 0)) (.cons (.con (.int 480)) .nil)))) .nil))) (.tup (.cons (.con (.int 1)) (.cons (.con (.int 1)) .nil))) (.tup (.cons (.con (.int 0)) (.cons (.con (.int 0)) .nil))))) .nil) .nil) (
  .cons (.ifs (.or (.cons (.cmp .notin (.idx (.var 0) (.con (.int 0))) (.tup (.cons (.con (.str "and")) (.cons (.con (.str "or")) .nil)))) (.cons (.cmp .ne (.bi .len false (.cons (.var 0) .nil)) (.con (.int 2))) (.cons (.not (.isi (.idx (.var 0) (.con (.int 1))) .ttuple)) .nil)))) (
    .cons (.ret (.tup (.cons (.con (.int 0)) (.cons (.con (.int 0)) .nil)))) .nil) .nil) (
  .cons (.asgLc 2 false [3] (.nm 3) (.seq (.idx (.var 0) (.con (.int 1)))) .nil (.call 11 (.cons (.var 3) (.cons (.bin .sub (.var 1) (.con (.int 1))) .nil)))) (
  .cons (.ifs (.cmp .isin (.tup (.cons (.con (.int 0)) (.cons (.con (.int 0)) .nil))) (.var 2)) (
    .cons (.ret (.tup (.cons (.con (.int 0)) (.cons (.con (.int 0)) .nil)))) .nil) .nil) (
  .cons (.ret (.tup (.cons (.bin (.add false) (.con (.int 1)) (.bi .sum false (.cons (.lc false [4] (.nm 4) (.seq (.var 2)) .nil (.idx (.var 4) (.con (.int 0)))) .nil))) (.cons (.bin (.add false) (.con (.int 1)) (.bi .maxl false (.cons (.bin (.add false) (.lst false (.cons (.con (.int 0)) .nil)) (.lc false [4] (.nm 4) (.seq (.var 2)) .nil (.idx (.var 4) (.con (.int 1))))) .nil))) .nil)))) .nil))))))), false⟩
def n__law_is_condition : List Str := ["value", "parts", "levels"]
def w__law_is_condition : Fn := ⟨1, 3, (
  .cons (.asg (.tp 2 [(.nm 1), (.nm 2)]) (.call 11 (.cons (.var 0) (.cons (.con (.int 30)) .nil)))) (
  .cons (.ret (.and (.cons (.chn .lt .le (.con (.int 0)) (.var 1) (.con (.int 20))) (.cons (.cmp .le (.var 2) (.con (.int 6))) .nil)))) .nil)), false⟩
def n__law_shaped : List Str := ["flow", "many", "levels", "word", "left", "parts", "turn", "size"]
def w__law_shaped : Fn := ⟨3, 8, (
  .cons (.ifs (.cmp .eq (.var 1) (.con (.int 1))) (
    .cons (.ret (.call 8 (.cons (.var 0) (.cons (.lst false (.cons (.tup (.cons (.con (.str "grade")) (.cons (.con (.int 7)) (.cons (.con (.int 6)) .nil)))) (.cons (.tup (.cons (.con (.str "points")) (.cons (.con (.int 480)) .nil))) (.cons (.tup (.cons (.con (.str "and")) (.cons (.tup .nil) .nil))) (.cons (.tup (.cons (.con (.str "or")) (.cons (.tup .nil) .nil))) (.cons (.tup (.cons (.con (.str "grade")) (.cons (.con (.int 0)) (.cons (.con (.int 0)) .nil)))) (.cons (.tup (.cons (.con (.str "points")) (.cons (.con (.int 0)) .nil))) .nil))))))) .nil)))) .nil) .nil) (
  .cons (.par [3, 4, 5] (.cons (.call 8 (.cons (.var 0) (.cons (.lst false (.cons (.con (.str "and")) (.cons (.con (.str "or")) .nil))) .nil))) (.cons (.bin .sub (.var 1) (.con (.int 1))) (.cons (.lst true .nil) .nil)))) (
  .cons (.fr (.nm 6) (.rng (.var 1)) (
    .cons (.ifs (.cmp .eq (.var 4) (.con (.int 0))) (
      .cons .brk .nil) .nil) (
    .cons (.asg (.nm 7) (.ite (.and (.cons (.cmp .lt (.var 2) (.con (.int 3))) (.cons (.cmp .eq (.call 7 (.cons (.var 0) (.cons (.con (.int 4)) .nil))) (.con (.int 0))) .nil))) (.var 4) (.bin (.add false) (.con (.int 1)) (.call 7 (.cons (.var 0) (.cons (.var 4) .nil)))))) (
    .cons (.asg (.nm 7) (.ite (.cmp .lt (.var 2) (.con (.int 3))) (.con (.int 1)) (.var 7))) (
    .cons (.exp (.mt .append (.var 5) (.cons (.call 13 (.cons (.var 0) (.cons (.var 7) (.cons (.bin .sub (.var 2) (.con (.int 1))) .nil)))) .nil))) (
    .cons (.asg (.nm 4) (.bin .sub (.var 4) (.var 7))) .nil)))))) (
  .cons (.ret (.tup (.cons (.var 3) (.cons (.bi .tuple false (.cons (.var 5) .nil)) .nil)))) .nil)))), false⟩
def n__law_deep : List Str := ["levels", "value", "k"]
def w__law_deep : Fn := ⟨1, 3, (
  .cons (.asg (.nm 1) (.tup (.cons (.con (.str "points")) (.cons (.con (.int 3)) .nil)))) (
  .cons (.fr (.nm 2) (.rng (.bin .sub (.var 0) (.con (.int 1)))) (
    .cons (.asg (.nm 1) (.tup (.cons (.idx (.tup (.cons (.con (.str "and")) (.cons (.con (.str "or")) .nil))) (.bin .mod (.bi .int false (.cons (.var 2) .nil)) (.con (.int 2)))) (.cons (.tup (.cons (.var 1) .nil)) .nil)))) .nil)) (
  .cons (.ret (.var 1)) .nil))), false⟩
def n__law_bent : List Str := ["flow", "value", "depth", "at", "new"]
def w__law_bent : Fn := ⟨3, 5, (
  .cons (.ifs (.and (.cons (.cmp .isin (.idx (.var 1) (.con (.int 0))) (.tup (.cons (.con (.str "and")) (.cons (.con (.str "or")) .nil)))) (.cons (.cmp .ne (.idx (.var 1) (.con (.int 1))) (.tup .nil)) (.cons (.cmp .gt (.var 2) (.con (.int 0))) (.cons (.cmp .gt (.call 7 (.cons (.var 0) (.cons (.con (.int 4)) .nil))) (.con (.int 0))) .nil))))) (
    .cons (.asg (.nm 3) (.bi .max2 false (.cons (.call 7 (.cons (.var 0) (.cons (.bi .len false (.cons (.idx (.var 1) (.con (.int 1))) .nil)) .nil))) (.cons (.call 7 (.cons (.var 0) (.cons (.bi .len false (.cons (.idx (.var 1) (.con (.int 1))) .nil)) .nil))) .nil)))) (
    .cons (.ret (.tup (.cons (.idx (.var 1) (.con (.int 0))) (.cons (.bin (.add false) (.bin (.add false) (.slc false (.idx (.var 1) (.con (.int 1))) .none (.some (.var 3))) (.tup (.cons (.call 15 (.cons (.var 0) (.cons (.idx (.idx (.var 1) (.con (.int 1))) (.var 3)) (.cons (.bin .sub (.var 2) (.con (.int 1))) .nil)))) .nil))) (.slc false (.idx (.var 1) (.con (.int 1))) (.some (.bin (.add false) (.var 3) (.con (.int 1)))) .none)) .nil)))) .nil)) .nil) (
  .cons (.asg (.nm 4) (.lst false (.cons (.tup (.cons (.con (.str "grade")) (.cons (.con (.int 8)) (.cons (.con (.int 0)) .nil)))) (.cons (.tup (.cons (.con (.str "grade")) (.cons (.con (.int 0)) (.cons (.con (.int 7)) .nil)))) (.cons (.tup (.cons (.con (.str "grade")) (.cons (.neg (.con (.int 1))) (.cons (.con (.int 0)) .nil)))) (.cons (.tup (.cons (.con (.str "grade")) (.cons (.con (.bl true)) (.cons (.con (.int 0)) .nil)))) (.cons (.tup (.cons (.con (.str "grade")) (.cons (.con (.int 0)) (.cons (.con (.bl false)) .nil)))) (.cons (.tup (.cons (.con (.str "grade")) (.cons (.con (.int 0)) .nil))) (.cons (.tup (.cons (.con (.str "grade")) (.cons (.con (.int 0)) (.cons (.con (.int 0)) (.cons (.con (.int 0)) .nil))))) (.cons (.tup (.cons (.con (.str "points")) (.cons (.con (.int 481)) .nil))) .nil)))))))))) (
  .cons (.asg (.nm 4) (.bin (.add false) (.var 4) (.lst false (.cons (.tup (.cons (.con (.str "points")) (.cons (.neg (.con (.int 1))) .nil))) (.cons (.tup (.cons (.con (.str "points")) (.cons (.con (.bl true)) .nil))) (.cons (.tup (.cons (.con (.str "points")) (.cons (.con .non) .nil))) (.cons (.tup (.cons (.con (.str "points")) .nil)) (.cons (.tup (.cons (.con (.str "not")) (.cons (.tup (.cons (.var 1) .nil)) .nil))) (.cons (.tup (.cons (.con (.str "and")) (.cons (.var 1) .nil))) (.cons (.tup (.cons (.con (.str "or")) (.cons (.tup (.cons (.var 1) (.cons (.con .non) .nil))) .nil))) (.cons (.tup (.cons (.con (.str "and")) .nil)) (.cons (.tup (.cons (.con (.str "and")) (.cons (.tup .nil) (.cons (.tup .nil) .nil)))) .nil)))))))))))) (
  .cons (.ret (.call 8 (.cons (.var 0) (.cons (.bin (.add false) (.var 4) (.lst false (.cons (.tup (.cons (.con (.str "And")) (.cons (.tup .nil) .nil))) (.cons (.tup (.cons (.var 1) .nil)) (.cons (.bin (.add false) (.var 1) (.tup (.cons (.tup .nil) .nil))) (.cons (.con .non) (.cons (.con (.str "and")) (.cons (.tup .nil) (.cons (.con (.int 0)) (.cons (.tup (.cons (.con (.str "points")) (.cons (.con (.int 480)) .nil))) (.cons (.tup (.cons (.con (.str "grade")) (.cons (.con (.int 7)) (.cons (.con (.int 6)) .nil)))) (.cons (.tup (.cons (.con (.str "or")) (.cons (.tup (.cons (.var 1) .nil)) .nil))) (.cons (.tup (.cons (.con (.str "and")) (.cons (.con .non) .nil))) .nil))))))))))))) .nil)))) .nil)))), false⟩
def n_law : List Str := ["script", "flow", "values", "value", "due", "many", "levels", "k"]
def w_law : Fn := ⟨1, 8, (
  .cons (.asg (.nm 1) (.call 6 (.cons (.var 0) .nil))) (
  .cons (.asg (.nm 2) (.bin (.add false) (.lc false [5] (.nm 5) (.seq (.tup (.cons (.con (.int 1)) (.cons (.con (.int 2)) (.cons (.con (.int 7)) (.cons (.con (.int 19)) (.cons (.con (.int 20)) (.cons (.con (.int 20)) (.cons (.con (.int 21)) (.cons (.con (.int 22)) .nil)))))))))) .nil (.call 13 (.cons (.var 1) (.cons (.var 5) (.cons (.con (.int 6)) .nil))))) (.lc false [6] (.nm 6) (.seq (.tup (.cons (.con (.int 1)) (.cons (.con (.int 5)) (.cons (.con (.int 6)) (.cons (.con (.int 7)) (.cons (.con (.int 12)) .nil))))))) .nil (.call 14 (.cons (.var 6) .nil))))) (
  .cons (.asg (.nm 2) (.bin (.add false) (.var 2) (.lst false (.cons (.tup (.cons (.con (.str "and")) (.cons (.bin (.mul false) (.tup (.cons (.tup (.cons (.con (.str "points")) (.cons (.con (.int 1)) .nil))) .nil)) (.con (.int 19))) .nil))) (.cons (.tup (.cons (.con (.str "and")) (.cons (.bin (.mul false) (.tup (.cons (.tup (.cons (.con (.str "points")) (.cons (.con (.int 1)) .nil))) .nil)) (.con (.int 20))) .nil))) (.cons (.tup (.cons (.con (.str "or")) (.cons (.tup (.cons (.call 14 (.cons (.con (.int 5)) .nil)) (.cons (.call 14 (.cons (.con (.int 5)) .nil)) .nil))) .nil))) (.cons (.tup (.cons (.con (.str "or")) (.cons (.tup (.cons (.call 14 (.cons (.con (.int 6)) .nil)) .nil)) .nil))) .nil))))))) (
  .cons (.fr (.nm 3) (.seq (.bin (.add false) (.var 2) (.lc false [7] (.nm 7) (.rng (.con (.int 24))) .nil (.call 15 (.cons (.var 1) (.cons (.call 8 (.cons (.var 1) (.cons (.var 2) .nil))) (.cons (.con (.int 9)) .nil))))))) (
    .cons (.asg (.nm 4) (.call 12 (.cons (.var 3) .nil))) (
    .cons (.ifs (.not (.call 9 (.cons (.tup (.cons (.call 5 (.cons (.var 3) .nil)) (.cons (.callk 5 .nil (.cons (.var 3) .nil) ["value"] [0]) .nil))) (.cons (.tup (.cons (.var 4) (.cons (.var 4) .nil))) .nil)))) (
      .cons (.ret (.con (.bl false))) .nil) .nil) .nil))) (
  .cons (.ret (.con (.bl true))) .nil))))), false⟩
def v__law_draw_0 : St := (.sset (.var 0) (.con (.int 3)) (.bin (.add false) (.idx (.var 0) (.con (.int 3))) (.con (.int 1))))
def v__law_draw_1 : St := (.asg (.nm 2) (.idx (.var 0) (.con (.int 4))))
def v__law_draw_2 : St := (.ifs (.and (.cons (.cmp .eq (.idx (.var 0) (.con (.int 1))) (.con (.int 0))) (.cons (.cmp .eq (.bin .mod (.bi .int false (.cons (.idx (.var 2) (.con (.int 0))) .nil)) (.con (.int 2))) (.con (.int 0))) (.cons (.cmp .lt (.idx (.var 0) (.con (.int 2))) (.bi .len false (.cons (.var 2) .nil))) (.cons (.cmp .ge (.idx (.var 2) (.idx (.var 0) (.con (.int 2)))) (.bin .pow (.con (.int 10)) (.con (.int 18)))) .nil))))) (
    .cons (.sset (.var 0) (.con (.int 0)) (.bin .fdiv (.idx (.var 2) (.idx (.var 0) (.con (.int 2)))) (.con (.int 2)))) (
    .cons (.sset (.var 0) (.con (.int 1)) (.con (.int 60))) (
    .cons (.sset (.var 0) (.con (.int 2)) (.bin (.add false) (.idx (.var 0) (.con (.int 2))) (.con (.int 1)))) .nil))) .nil)
def v__law_draw_3 : St := (.ifs (.cmp .gt (.idx (.var 0) (.con (.int 1))) (.con (.int 0))) (
    .cons (.asg (.nm 3) (.bin .mod (.bi .int false (.cons (.idx (.var 0) (.con (.int 0))) .nil)) (.var 1))) (
    .cons (.sset (.var 0) (.con (.int 0)) (.bin .fdiv (.idx (.var 0) (.con (.int 0))) (.var 1))) (
    .cons (.sset (.var 0) (.con (.int 1)) (.bin (.mul false) (.bin .sub (.idx (.var 0) (.con (.int 1))) (.con (.int 1))) (.bi .int false (.cons (.cmp .gt (.idx (.var 0) (.con (.int 0))) (.con (.int 0))) .nil)))) (
    .cons (.ret (.var 3)) .nil)))) .nil)
def v__law_draw_4 : St := (.asg (.nm 4) (.idx (.var 2) (.bin .mod (.bi .int false (.cons (.idx (.var 0) (.con (.int 3))) .nil)) (.bi .len false (.cons (.var 2) .nil)))))
def v__law_draw_5 : St := (.sset (.var 0) (.con (.int 2)) (.bin (.add false) (.idx (.var 0) (.con (.int 2))) (.bi .int false (.cons (.cmp .lt (.idx (.var 2) (.bi .min2 false (.cons (.idx (.var 0) (.con (.int 2))) (.cons (.bin .sub (.bi .len false (.cons (.var 2) .nil)) (.con (.int 1))) .nil)))) (.bin .pow (.con (.int 10)) (.con (.int 18)))) .nil))))
def v__law_draw_6 : St := (.asg (.nm 5) (.bin .mod (.bi .int false (.cons (.bin (.add false) (.bin (.add false) (.bin (.mul false) (.var 4) (.con (.int 48271))) (.bin (.mul false) (.idx (.var 0) (.con (.int 3))) (.con (.int 69621)))) (.con (.int 5))) .nil)) (.con (.int 2147483647))))
def v__law_draw_7 : St := (.asg (.nm 6) (.bin .mod (.bi .int false (.cons (.bin (.add false) (.bin (.mul false) (.var 5) (.var 5)) (.bin (.mul false) (.idx (.var 0) (.con (.int 3))) (.con (.int 40692)))) .nil)) (.con (.int 2147483399))))
def v__law_draw_8 : St := (.ret (.bin .mod (.bi .int false (.cons (.bin .fdiv (.bin .mod (.bi .int false (.cons (.bin (.add false) (.bin (.mul false) (.var 6) (.var 6)) (.var 5)) .nil)) (.con (.int 2147483647))) (.con (.int 8))) .nil)) (.var 1)))
theorem b__law_draw : w__law_draw.body = (.cons v__law_draw_0 (.cons v__law_draw_1 (.cons v__law_draw_2 (.cons v__law_draw_3 (.cons v__law_draw_4 (.cons v__law_draw_5 (.cons v__law_draw_6 (.cons v__law_draw_7 (.cons v__law_draw_8 .nil))))))))) := rfl
def v__law_shaped_0 : St := (.ifs (.cmp .eq (.var 1) (.con (.int 1))) (
    .cons (.ret (.call 8 (.cons (.var 0) (.cons (.lst false (.cons (.tup (.cons (.con (.str "grade")) (.cons (.con (.int 7)) (.cons (.con (.int 6)) .nil)))) (.cons (.tup (.cons (.con (.str "points")) (.cons (.con (.int 480)) .nil))) (.cons (.tup (.cons (.con (.str "and")) (.cons (.tup .nil) .nil))) (.cons (.tup (.cons (.con (.str "or")) (.cons (.tup .nil) .nil))) (.cons (.tup (.cons (.con (.str "grade")) (.cons (.con (.int 0)) (.cons (.con (.int 0)) .nil)))) (.cons (.tup (.cons (.con (.str "points")) (.cons (.con (.int 0)) .nil))) .nil))))))) .nil)))) .nil) .nil)
def v__law_shaped_1 : St := (.par [3, 4, 5] (.cons (.call 8 (.cons (.var 0) (.cons (.lst false (.cons (.con (.str "and")) (.cons (.con (.str "or")) .nil))) .nil))) (.cons (.bin .sub (.var 1) (.con (.int 1))) (.cons (.lst true .nil) .nil))))
def v__law_shaped_2 : St := (.fr (.nm 6) (.rng (.var 1)) (
    .cons (.ifs (.cmp .eq (.var 4) (.con (.int 0))) (
      .cons .brk .nil) .nil) (
    .cons (.asg (.nm 7) (.ite (.and (.cons (.cmp .lt (.var 2) (.con (.int 3))) (.cons (.cmp .eq (.call 7 (.cons (.var 0) (.cons (.con (.int 4)) .nil))) (.con (.int 0))) .nil))) (.var 4) (.bin (.add false) (.con (.int 1)) (.call 7 (.cons (.var 0) (.cons (.var 4) .nil)))))) (
    .cons (.asg (.nm 7) (.ite (.cmp .lt (.var 2) (.con (.int 3))) (.con (.int 1)) (.var 7))) (
    .cons (.exp (.mt .append (.var 5) (.cons (.call 13 (.cons (.var 0) (.cons (.var 7) (.cons (.bin .sub (.var 2) (.con (.int 1))) .nil)))) .nil))) (
    .cons (.asg (.nm 4) (.bin .sub (.var 4) (.var 7))) .nil))))))
def k__law_shaped_2 : Ss := (
  .cons (.ifs (.cmp .eq (.var 4) (.con (.int 0))) (
    .cons .brk .nil) .nil) (
  .cons (.asg (.nm 7) (.ite (.and (.cons (.cmp .lt (.var 2) (.con (.int 3))) (.cons (.cmp .eq (.call 7 (.cons (.var 0) (.cons (.con (.int 4)) .nil))) (.con (.int 0))) .nil))) (.var 4) (.bin (.add false) (.con (.int 1)) (.call 7 (.cons (.var 0) (.cons (.var 4) .nil)))))) (
  .cons (.asg (.nm 7) (.ite (.cmp .lt (.var 2) (.con (.int 3))) (.con (.int 1)) (.var 7))) (
  .cons (.exp (.mt .append (.var 5) (.cons (.call 13 (.cons (.var 0) (.cons (.var 7) (.cons (.bin .sub (.var 2) (.con (.int 1))) .nil)))) .nil))) (
  .cons (.asg (.nm 4) (.bin .sub (.var 4) (.var 7))) .nil)))))
def v__law_shaped_3 : St := (.ret (.tup (.cons (.var 3) (.cons (.bi .tuple false (.cons (.var 5) .nil)) .nil))))
theorem b__law_shaped : w__law_shaped.body = (.cons v__law_shaped_0 (.cons v__law_shaped_1 (.cons v__law_shaped_2 (.cons v__law_shaped_3 .nil)))) := rfl
def v__law_deep_0 : St := (.asg (.nm 1) (.tup (.cons (.con (.str "points")) (.cons (.con (.int 3)) .nil))))
def v__law_deep_1 : St := (.fr (.nm 2) (.rng (.bin .sub (.var 0) (.con (.int 1)))) (
    .cons (.asg (.nm 1) (.tup (.cons (.idx (.tup (.cons (.con (.str "and")) (.cons (.con (.str "or")) .nil))) (.bin .mod (.bi .int false (.cons (.var 2) .nil)) (.con (.int 2)))) (.cons (.tup (.cons (.var 1) .nil)) .nil)))) .nil))
def k__law_deep_1 : Ss := (
  .cons (.asg (.nm 1) (.tup (.cons (.idx (.tup (.cons (.con (.str "and")) (.cons (.con (.str "or")) .nil))) (.bin .mod (.bi .int false (.cons (.var 2) .nil)) (.con (.int 2)))) (.cons (.tup (.cons (.var 1) .nil)) .nil)))) .nil)
def v__law_deep_2 : St := (.ret (.var 1))
theorem b__law_deep : w__law_deep.body = (.cons v__law_deep_0 (.cons v__law_deep_1 (.cons v__law_deep_2 .nil))) := rfl
def v__law_bent_0 : St := (.ifs (.and (.cons (.cmp .isin (.idx (.var 1) (.con (.int 0))) (.tup (.cons (.con (.str "and")) (.cons (.con (.str "or")) .nil)))) (.cons (.cmp .ne (.idx (.var 1) (.con (.int 1))) (.tup .nil)) (.cons (.cmp .gt (.var 2) (.con (.int 0))) (.cons (.cmp .gt (.call 7 (.cons (.var 0) (.cons (.con (.int 4)) .nil))) (.con (.int 0))) .nil))))) (
    .cons (.asg (.nm 3) (.bi .max2 false (.cons (.call 7 (.cons (.var 0) (.cons (.bi .len false (.cons (.idx (.var 1) (.con (.int 1))) .nil)) .nil))) (.cons (.call 7 (.cons (.var 0) (.cons (.bi .len false (.cons (.idx (.var 1) (.con (.int 1))) .nil)) .nil))) .nil)))) (
    .cons (.ret (.tup (.cons (.idx (.var 1) (.con (.int 0))) (.cons (.bin (.add false) (.bin (.add false) (.slc false (.idx (.var 1) (.con (.int 1))) .none (.some (.var 3))) (.tup (.cons (.call 15 (.cons (.var 0) (.cons (.idx (.idx (.var 1) (.con (.int 1))) (.var 3)) (.cons (.bin .sub (.var 2) (.con (.int 1))) .nil)))) .nil))) (.slc false (.idx (.var 1) (.con (.int 1))) (.some (.bin (.add false) (.var 3) (.con (.int 1)))) .none)) .nil)))) .nil)) .nil)
def v__law_bent_1 : St := (.asg (.nm 4) (.lst false (.cons (.tup (.cons (.con (.str "grade")) (.cons (.con (.int 8)) (.cons (.con (.int 0)) .nil)))) (.cons (.tup (.cons (.con (.str "grade")) (.cons (.con (.int 0)) (.cons (.con (.int 7)) .nil)))) (.cons (.tup (.cons (.con (.str "grade")) (.cons (.neg (.con (.int 1))) (.cons (.con (.int 0)) .nil)))) (.cons (.tup (.cons (.con (.str "grade")) (.cons (.con (.bl true)) (.cons (.con (.int 0)) .nil)))) (.cons (.tup (.cons (.con (.str "grade")) (.cons (.con (.int 0)) (.cons (.con (.bl false)) .nil)))) (.cons (.tup (.cons (.con (.str "grade")) (.cons (.con (.int 0)) .nil))) (.cons (.tup (.cons (.con (.str "grade")) (.cons (.con (.int 0)) (.cons (.con (.int 0)) (.cons (.con (.int 0)) .nil))))) (.cons (.tup (.cons (.con (.str "points")) (.cons (.con (.int 481)) .nil))) .nil))))))))))
def v__law_bent_2 : St := (.asg (.nm 4) (.bin (.add false) (.var 4) (.lst false (.cons (.tup (.cons (.con (.str "points")) (.cons (.neg (.con (.int 1))) .nil))) (.cons (.tup (.cons (.con (.str "points")) (.cons (.con (.bl true)) .nil))) (.cons (.tup (.cons (.con (.str "points")) (.cons (.con .non) .nil))) (.cons (.tup (.cons (.con (.str "points")) .nil)) (.cons (.tup (.cons (.con (.str "not")) (.cons (.tup (.cons (.var 1) .nil)) .nil))) (.cons (.tup (.cons (.con (.str "and")) (.cons (.var 1) .nil))) (.cons (.tup (.cons (.con (.str "or")) (.cons (.tup (.cons (.var 1) (.cons (.con .non) .nil))) .nil))) (.cons (.tup (.cons (.con (.str "and")) .nil)) (.cons (.tup (.cons (.con (.str "and")) (.cons (.tup .nil) (.cons (.tup .nil) .nil)))) .nil))))))))))))
def v__law_bent_3 : St := (.ret (.call 8 (.cons (.var 0) (.cons (.bin (.add false) (.var 4) (.lst false (.cons (.tup (.cons (.con (.str "And")) (.cons (.tup .nil) .nil))) (.cons (.tup (.cons (.var 1) .nil)) (.cons (.bin (.add false) (.var 1) (.tup (.cons (.tup .nil) .nil))) (.cons (.con .non) (.cons (.con (.str "and")) (.cons (.tup .nil) (.cons (.con (.int 0)) (.cons (.tup (.cons (.con (.str "points")) (.cons (.con (.int 480)) .nil))) (.cons (.tup (.cons (.con (.str "grade")) (.cons (.con (.int 7)) (.cons (.con (.int 6)) .nil)))) (.cons (.tup (.cons (.con (.str "or")) (.cons (.tup (.cons (.var 1) .nil)) .nil))) (.cons (.tup (.cons (.con (.str "and")) (.cons (.con .non) .nil))) .nil))))))))))))) .nil))))
theorem b__law_bent : w__law_bent.body = (.cons v__law_bent_0 (.cons v__law_bent_1 (.cons v__law_bent_2 (.cons v__law_bent_3 .nil)))) := rfl
def v_law_0 : St := (.asg (.nm 1) (.call 6 (.cons (.var 0) .nil)))
def v_law_1 : St := (.asg (.nm 2) (.bin (.add false) (.lc false [5] (.nm 5) (.seq (.tup (.cons (.con (.int 1)) (.cons (.con (.int 2)) (.cons (.con (.int 7)) (.cons (.con (.int 19)) (.cons (.con (.int 20)) (.cons (.con (.int 20)) (.cons (.con (.int 21)) (.cons (.con (.int 22)) .nil)))))))))) .nil (.call 13 (.cons (.var 1) (.cons (.var 5) (.cons (.con (.int 6)) .nil))))) (.lc false [6] (.nm 6) (.seq (.tup (.cons (.con (.int 1)) (.cons (.con (.int 5)) (.cons (.con (.int 6)) (.cons (.con (.int 7)) (.cons (.con (.int 12)) .nil))))))) .nil (.call 14 (.cons (.var 6) .nil)))))
def v_law_2 : St := (.asg (.nm 2) (.bin (.add false) (.var 2) (.lst false (.cons (.tup (.cons (.con (.str "and")) (.cons (.bin (.mul false) (.tup (.cons (.tup (.cons (.con (.str "points")) (.cons (.con (.int 1)) .nil))) .nil)) (.con (.int 19))) .nil))) (.cons (.tup (.cons (.con (.str "and")) (.cons (.bin (.mul false) (.tup (.cons (.tup (.cons (.con (.str "points")) (.cons (.con (.int 1)) .nil))) .nil)) (.con (.int 20))) .nil))) (.cons (.tup (.cons (.con (.str "or")) (.cons (.tup (.cons (.call 14 (.cons (.con (.int 5)) .nil)) (.cons (.call 14 (.cons (.con (.int 5)) .nil)) .nil))) .nil))) (.cons (.tup (.cons (.con (.str "or")) (.cons (.tup (.cons (.call 14 (.cons (.con (.int 6)) .nil)) .nil)) .nil))) .nil)))))))
def v_law_3 : St := (.fr (.nm 3) (.seq (.bin (.add false) (.var 2) (.lc false [7] (.nm 7) (.rng (.con (.int 24))) .nil (.call 15 (.cons (.var 1) (.cons (.call 8 (.cons (.var 1) (.cons (.var 2) .nil))) (.cons (.con (.int 9)) .nil))))))) (
    .cons (.asg (.nm 4) (.call 12 (.cons (.var 3) .nil))) (
    .cons (.ifs (.not (.call 9 (.cons (.tup (.cons (.call 5 (.cons (.var 3) .nil)) (.cons (.callk 5 .nil (.cons (.var 3) .nil) ["value"] [0]) .nil))) (.cons (.tup (.cons (.var 4) (.cons (.var 4) .nil))) .nil)))) (
      .cons (.ret (.con (.bl false))) .nil) .nil) .nil)))
def k_law_3 : Ss := (
  .cons (.asg (.nm 4) (.call 12 (.cons (.var 3) .nil))) (
  .cons (.ifs (.not (.call 9 (.cons (.tup (.cons (.call 5 (.cons (.var 3) .nil)) (.cons (.callk 5 .nil (.cons (.var 3) .nil) ["value"] [0]) .nil))) (.cons (.tup (.cons (.var 4) (.cons (.var 4) .nil))) .nil)))) (
    .cons (.ret (.con (.bl false))) .nil) .nil) .nil))
def v_law_4 : St := (.ret (.con (.bl true)))
theorem b_law : w_law.body = (.cons v_law_0 (.cons v_law_1 (.cons v_law_2 (.cons v_law_3 (.cons v_law_4 .nil))))) := rfl
def Ps : List Fn := [w_is_number, w_parts_of_grade, w_parts_of_points, w_parts_of_many, w_parts_of, w_check_condition, w__law_flow, w__law_draw, w__law_pick, w__law_same, w__law_is_number, w__law_size, w__law_is_condition, w__law_shaped, w__law_deep, w__law_bent, w_law]
def fns : List FnE := [
  ⟨"is_number", ["value", "low", "high"], []⟩,
  ⟨"parts_of_grade", ["value"], []⟩,
  ⟨"parts_of_points", ["value"], []⟩,
  ⟨"parts_of_many", ["value", "levels"], []⟩,
  ⟨"parts_of", ["value", "levels"], []⟩,
  ⟨"check_condition", ["value"], [⟨0, ["value"], [0]⟩]⟩,
  ⟨"_law_flow", ["script"], []⟩,
  ⟨"_law_draw", ["flow", "many"], []⟩,
  ⟨"_law_pick", ["flow", "things"], []⟩,
  ⟨"_law_same", ["found", "due"], []⟩,
  ⟨"_law_is_number", ["value", "low", "high"], []⟩,
  ⟨"_law_size", ["value", "depth"], []⟩,
  ⟨"_law_is_condition", ["value"], []⟩,
  ⟨"_law_shaped", ["flow", "many", "levels"], []⟩,
  ⟨"_law_deep", ["levels"], []⟩,
  ⟨"_law_bent", ["flow", "value", "depth"], []⟩,
  ⟨"law", ["script"], []⟩]
def gi : Gi := ⟨fns, ["SUBJECTS", "MOST_POINTS", "MOST_LEVELS", "MOST_PARTS"]⟩
def G : List D := [.int 8, .int 480, .int 6, .int 20]
def top (i : Nat) : Stmt := PySem.Challenge.pw_keptoffers_k02_conditions_looked_at.main.body.getD i (.Pass ⟨0, 0, 0, 0⟩)
theorem c_is_number : chkSs gi ⟨n_is_number, defScope (top 1), fun _ => true⟩ w_is_number.body (defBody (top 1)) = true := by decide +kernel
theorem s_is_number : FnScope n_is_number ["value", "low", "high"] (defScope (top 1)) := ⟨rfl, rfl, rfl, by decide +kernel, rfl, by decide +kernel, by decide +kernel⟩
theorem c_parts_of_grade : chkSs gi ⟨n_parts_of_grade, defScope (top 7), fun _ => true⟩ w_parts_of_grade.body (defBody (top 7)) = true := by decide +kernel
theorem s_parts_of_grade : FnScope n_parts_of_grade ["value"] (defScope (top 7)) := ⟨rfl, rfl, rfl, by decide +kernel, rfl, by decide +kernel, by decide +kernel⟩
theorem c_parts_of_points : chkSs gi ⟨n_parts_of_points, defScope (top 8), fun _ => true⟩ w_parts_of_points.body (defBody (top 8)) = true := by decide +kernel
theorem s_parts_of_points : FnScope n_parts_of_points ["value"] (defScope (top 8)) := ⟨rfl, rfl, rfl, by decide +kernel, rfl, by decide +kernel, by decide +kernel⟩
theorem c_parts_of_many : chkSs gi ⟨n_parts_of_many, defScope (top 9), fun _ => true⟩ w_parts_of_many.body (defBody (top 9)) = true := by decide +kernel
theorem s_parts_of_many : FnScope n_parts_of_many ["value", "levels"] (defScope (top 9)) := ⟨rfl, rfl, rfl, by decide +kernel, rfl, by decide +kernel, by decide +kernel⟩
theorem c_parts_of : chkSs gi ⟨n_parts_of, defScope (top 10), fun _ => true⟩ w_parts_of.body (defBody (top 10)) = true := by decide +kernel
theorem s_parts_of : FnScope n_parts_of ["value", "levels"] (defScope (top 10)) := ⟨rfl, rfl, rfl, by decide +kernel, rfl, by decide +kernel, by decide +kernel⟩
theorem c_check_condition : chkSs gi ⟨n_check_condition, defScope (top 11), fun _ => true⟩ w_check_condition.body (defBody (top 11)) = true := by decide +kernel
theorem s_check_condition : FnScope n_check_condition ["value"] (defScope (top 11)) := ⟨rfl, rfl, rfl, by decide +kernel, rfl, by decide +kernel, by decide +kernel⟩
theorem c__law_flow : chkSs gi ⟨n__law_flow, defScope (top 13), fun _ => true⟩ w__law_flow.body (defBody (top 13)) = true := by decide +kernel
theorem s__law_flow : FnScope n__law_flow ["script"] (defScope (top 13)) := ⟨rfl, rfl, rfl, by decide +kernel, rfl, by decide +kernel, by decide +kernel⟩
theorem c__law_draw : chkSs gi ⟨n__law_draw, defScope (top 14), fun _ => true⟩ w__law_draw.body (defBody (top 14)) = true := by decide +kernel
theorem s__law_draw : FnScope n__law_draw ["flow", "many"] (defScope (top 14)) := ⟨rfl, rfl, rfl, by decide +kernel, rfl, by decide +kernel, by decide +kernel⟩
theorem c__law_pick : chkSs gi ⟨n__law_pick, defScope (top 15), fun _ => true⟩ w__law_pick.body (defBody (top 15)) = true := by decide +kernel
theorem s__law_pick : FnScope n__law_pick ["flow", "things"] (defScope (top 15)) := ⟨rfl, rfl, rfl, by decide +kernel, rfl, by decide +kernel, by decide +kernel⟩
theorem c__law_same : chkSs gi ⟨n__law_same, defScope (top 16), fun _ => true⟩ w__law_same.body (defBody (top 16)) = true := by decide +kernel
theorem s__law_same : FnScope n__law_same ["found", "due"] (defScope (top 16)) := ⟨rfl, rfl, rfl, by decide +kernel, rfl, by decide +kernel, by decide +kernel⟩
theorem c__law_is_number : chkSs gi ⟨n__law_is_number, defScope (top 17), fun _ => true⟩ w__law_is_number.body (defBody (top 17)) = true := by decide +kernel
theorem s__law_is_number : FnScope n__law_is_number ["value", "low", "high"] (defScope (top 17)) := ⟨rfl, rfl, rfl, by decide +kernel, rfl, by decide +kernel, by decide +kernel⟩
theorem c__law_size : chkSs gi ⟨n__law_size, defScope (top 18), fun _ => true⟩ w__law_size.body (defBody (top 18)) = true := by decide +kernel
theorem s__law_size : FnScope n__law_size ["value", "depth"] (defScope (top 18)) := ⟨rfl, rfl, rfl, by decide +kernel, rfl, by decide +kernel, by decide +kernel⟩
theorem c__law_is_condition : chkSs gi ⟨n__law_is_condition, defScope (top 19), fun _ => true⟩ w__law_is_condition.body (defBody (top 19)) = true := by decide +kernel
theorem s__law_is_condition : FnScope n__law_is_condition ["value"] (defScope (top 19)) := ⟨rfl, rfl, rfl, by decide +kernel, rfl, by decide +kernel, by decide +kernel⟩
theorem c__law_shaped : chkSs gi ⟨n__law_shaped, defScope (top 20), fun _ => true⟩ w__law_shaped.body (defBody (top 20)) = true := by decide +kernel
theorem s__law_shaped : FnScope n__law_shaped ["flow", "many", "levels"] (defScope (top 20)) := ⟨rfl, rfl, rfl, by decide +kernel, rfl, by decide +kernel, by decide +kernel⟩
theorem c__law_deep : chkSs gi ⟨n__law_deep, defScope (top 21), fun _ => true⟩ w__law_deep.body (defBody (top 21)) = true := by decide +kernel
theorem s__law_deep : FnScope n__law_deep ["levels"] (defScope (top 21)) := ⟨rfl, rfl, rfl, by decide +kernel, rfl, by decide +kernel, by decide +kernel⟩
theorem c__law_bent : chkSs gi ⟨n__law_bent, defScope (top 22), fun _ => true⟩ w__law_bent.body (defBody (top 22)) = true := by decide +kernel
theorem s__law_bent : FnScope n__law_bent ["flow", "value", "depth"] (defScope (top 22)) := ⟨rfl, rfl, rfl, by decide +kernel, rfl, by decide +kernel, by decide +kernel⟩
theorem c_law : chkSs gi ⟨n_law, defScope (top 23), fun _ => true⟩ w_law.body (defBody (top 23)) = true := by decide +kernel
theorem s_law : FnScope n_law ["script"] (defScope (top 23)) := ⟨rfl, rfl, rfl, by decide +kernel, rfl, by decide +kernel, by decide +kernel⟩
theorem d_is_number {K : PySem.W.Frag} {h : Heap} {mg : Str → Option Value} {f : Addr} {oc kV dc pm cd ct : Value} {od an : Option Addr} {sl : Array (Option Value)} (X : K.In h) (N : h.Ns mainGlobals mg) (a : PySem.W.nsIn K mainGlobals "is_number" = some (some (.ref f)))
    (l : K.lookup f = some ⟨oc, od, .func (PySem.W.fnOf "is_number" "is_number" (defArgs (top 1)) (defBody (top 1)) (defScope (top 1)) .none kV dc pm an cd ct), sl⟩) (c : PySem.W.codeIn K cd "is_number" = true) (k : PySem.W.keepIn K (.ref f) = true) : ∀ fe, fns[0]? = some fe → DefOk K mg gi Ps 0 fe := fun fe e => by
  cases e
  refine ⟨⟨w_is_number, "is_number", "is_number", top 1, f, _, n_is_number, rfl, fun_mk l c k, s_is_number, rfl, rfl, c_is_number, PySem.W.mg_of X N a, (fun_mk l c k).binds (fun _ _ _ _ _ _ us hl => match us, hl with | [_, _, _], _ => rfl), fun e he => ?_⟩⟩
  cases he
theorem d_parts_of_grade {K : PySem.W.Frag} {h : Heap} {mg : Str → Option Value} {f : Addr} {oc kV dc pm cd ct : Value} {od an : Option Addr} {sl : Array (Option Value)} (X : K.In h) (N : h.Ns mainGlobals mg) (a : PySem.W.nsIn K mainGlobals "parts_of_grade" = some (some (.ref f)))
    (l : K.lookup f = some ⟨oc, od, .func (PySem.W.fnOf "parts_of_grade" "parts_of_grade" (defArgs (top 7)) (defBody (top 7)) (defScope (top 7)) .none kV dc pm an cd ct), sl⟩) (c : PySem.W.codeIn K cd "parts_of_grade" = true) (k : PySem.W.keepIn K (.ref f) = true) : ∀ fe, fns[1]? = some fe → DefOk K mg gi Ps 1 fe := fun fe e => by
  cases e
  refine ⟨⟨w_parts_of_grade, "parts_of_grade", "parts_of_grade", top 7, f, _, n_parts_of_grade, rfl, fun_mk l c k, s_parts_of_grade, rfl, rfl, c_parts_of_grade, PySem.W.mg_of X N a, (fun_mk l c k).binds (fun _ _ _ _ _ _ us hl => match us, hl with | [_], _ => rfl), fun e he => ?_⟩⟩
  cases he
theorem d_parts_of_points {K : PySem.W.Frag} {h : Heap} {mg : Str → Option Value} {f : Addr} {oc kV dc pm cd ct : Value} {od an : Option Addr} {sl : Array (Option Value)} (X : K.In h) (N : h.Ns mainGlobals mg) (a : PySem.W.nsIn K mainGlobals "parts_of_points" = some (some (.ref f)))
    (l : K.lookup f = some ⟨oc, od, .func (PySem.W.fnOf "parts_of_points" "parts_of_points" (defArgs (top 8)) (defBody (top 8)) (defScope (top 8)) .none kV dc pm an cd ct), sl⟩) (c : PySem.W.codeIn K cd "parts_of_points" = true) (k : PySem.W.keepIn K (.ref f) = true) : ∀ fe, fns[2]? = some fe → DefOk K mg gi Ps 2 fe := fun fe e => by
  cases e
  refine ⟨⟨w_parts_of_points, "parts_of_points", "parts_of_points", top 8, f, _, n_parts_of_points, rfl, fun_mk l c k, s_parts_of_points, rfl, rfl, c_parts_of_points, PySem.W.mg_of X N a, (fun_mk l c k).binds (fun _ _ _ _ _ _ us hl => match us, hl with | [_], _ => rfl), fun e he => ?_⟩⟩
  cases he
theorem d_parts_of_many {K : PySem.W.Frag} {h : Heap} {mg : Str → Option Value} {f : Addr} {oc kV dc pm cd ct : Value} {od an : Option Addr} {sl : Array (Option Value)} (X : K.In h) (N : h.Ns mainGlobals mg) (a : PySem.W.nsIn K mainGlobals "parts_of_many" = some (some (.ref f)))
    (l : K.lookup f = some ⟨oc, od, .func (PySem.W.fnOf "parts_of_many" "parts_of_many" (defArgs (top 9)) (defBody (top 9)) (defScope (top 9)) .none kV dc pm an cd ct), sl⟩) (c : PySem.W.codeIn K cd "parts_of_many" = true) (k : PySem.W.keepIn K (.ref f) = true) : ∀ fe, fns[3]? = some fe → DefOk K mg gi Ps 3 fe := fun fe e => by
  cases e
  refine ⟨⟨w_parts_of_many, "parts_of_many", "parts_of_many", top 9, f, _, n_parts_of_many, rfl, fun_mk l c k, s_parts_of_many, rfl, rfl, c_parts_of_many, PySem.W.mg_of X N a, (fun_mk l c k).binds (fun _ _ _ _ _ _ us hl => match us, hl with | [_, _], _ => rfl), fun e he => ?_⟩⟩
  cases he
theorem d_parts_of {K : PySem.W.Frag} {h : Heap} {mg : Str → Option Value} {f : Addr} {oc kV dc pm cd ct : Value} {od an : Option Addr} {sl : Array (Option Value)} (X : K.In h) (N : h.Ns mainGlobals mg) (a : PySem.W.nsIn K mainGlobals "parts_of" = some (some (.ref f)))
    (l : K.lookup f = some ⟨oc, od, .func (PySem.W.fnOf "parts_of" "parts_of" (defArgs (top 10)) (defBody (top 10)) (defScope (top 10)) .none kV dc pm an cd ct), sl⟩) (c : PySem.W.codeIn K cd "parts_of" = true) (k : PySem.W.keepIn K (.ref f) = true) : ∀ fe, fns[4]? = some fe → DefOk K mg gi Ps 4 fe := fun fe e => by
  cases e
  refine ⟨⟨w_parts_of, "parts_of", "parts_of", top 10, f, _, n_parts_of, rfl, fun_mk l c k, s_parts_of, rfl, rfl, c_parts_of, PySem.W.mg_of X N a, (fun_mk l c k).binds (fun _ _ _ _ _ _ us hl => match us, hl with | [_, _], _ => rfl), fun e he => ?_⟩⟩
  cases he
theorem d_check_condition {K : PySem.W.Frag} {h : Heap} {mg : Str → Option Value} {f : Addr} {oc kV dc pm cd ct : Value} {od an : Option Addr} {sl : Array (Option Value)} (X : K.In h) (N : h.Ns mainGlobals mg) (a : PySem.W.nsIn K mainGlobals "check_condition" = some (some (.ref f)))
    (l : K.lookup f = some ⟨oc, od, .func (PySem.W.fnOf "check_condition" "check_condition" (defArgs (top 11)) (defBody (top 11)) (defScope (top 11)) .none kV dc pm an cd ct), sl⟩) (c : PySem.W.codeIn K cd "check_condition" = true) (k : PySem.W.keepIn K (.ref f) = true) : ∀ fe, fns[5]? = some fe → DefOk K mg gi Ps 5 fe := fun fe e => by
  cases e
  refine ⟨⟨w_check_condition, "check_condition", "check_condition", top 11, f, _, n_check_condition, rfl, fun_mk l c k, s_check_condition, rfl, rfl, c_check_condition, PySem.W.mg_of X N a, (fun_mk l c k).binds (fun _ _ _ _ _ _ us hl => match us, hl with | [_], _ => rfl), fun e he => ?_⟩⟩
  simp only [List.mem_cons, List.not_mem_nil, or_false] at he
  subst he
  · exact kb_of (by decide) fun us ws h1 h2 => match us, ws, h1, h2 with | [], [_], _, _ => rfl
theorem d__law_flow {K : PySem.W.Frag} {h : Heap} {mg : Str → Option Value} {f : Addr} {oc kV dc pm cd ct : Value} {od an : Option Addr} {sl : Array (Option Value)} (X : K.In h) (N : h.Ns mainGlobals mg) (a : PySem.W.nsIn K mainGlobals "_law_flow" = some (some (.ref f)))
    (l : K.lookup f = some ⟨oc, od, .func (PySem.W.fnOf "_law_flow" "_law_flow" (defArgs (top 13)) (defBody (top 13)) (defScope (top 13)) .none kV dc pm an cd ct), sl⟩) (c : PySem.W.codeIn K cd "_law_flow" = true) (k : PySem.W.keepIn K (.ref f) = true) : ∀ fe, fns[6]? = some fe → DefOk K mg gi Ps 6 fe := fun fe e => by
  cases e
  refine ⟨⟨w__law_flow, "_law_flow", "_law_flow", top 13, f, _, n__law_flow, rfl, fun_mk l c k, s__law_flow, rfl, rfl, c__law_flow, PySem.W.mg_of X N a, (fun_mk l c k).binds (fun _ _ _ _ _ _ us hl => match us, hl with | [_], _ => rfl), fun e he => ?_⟩⟩
  cases he
theorem d__law_draw {K : PySem.W.Frag} {h : Heap} {mg : Str → Option Value} {f : Addr} {oc kV dc pm cd ct : Value} {od an : Option Addr} {sl : Array (Option Value)} (X : K.In h) (N : h.Ns mainGlobals mg) (a : PySem.W.nsIn K mainGlobals "_law_draw" = some (some (.ref f)))
    (l : K.lookup f = some ⟨oc, od, .func (PySem.W.fnOf "_law_draw" "_law_draw" (defArgs (top 14)) (defBody (top 14)) (defScope (top 14)) .none kV dc pm an cd ct), sl⟩) (c : PySem.W.codeIn K cd "_law_draw" = true) (k : PySem.W.keepIn K (.ref f) = true) : ∀ fe, fns[7]? = some fe → DefOk K mg gi Ps 7 fe := fun fe e => by
  cases e
  refine ⟨⟨w__law_draw, "_law_draw", "_law_draw", top 14, f, _, n__law_draw, rfl, fun_mk l c k, s__law_draw, rfl, rfl, c__law_draw, PySem.W.mg_of X N a, (fun_mk l c k).binds (fun _ _ _ _ _ _ us hl => match us, hl with | [_, _], _ => rfl), fun e he => ?_⟩⟩
  cases he
theorem d__law_pick {K : PySem.W.Frag} {h : Heap} {mg : Str → Option Value} {f : Addr} {oc kV dc pm cd ct : Value} {od an : Option Addr} {sl : Array (Option Value)} (X : K.In h) (N : h.Ns mainGlobals mg) (a : PySem.W.nsIn K mainGlobals "_law_pick" = some (some (.ref f)))
    (l : K.lookup f = some ⟨oc, od, .func (PySem.W.fnOf "_law_pick" "_law_pick" (defArgs (top 15)) (defBody (top 15)) (defScope (top 15)) .none kV dc pm an cd ct), sl⟩) (c : PySem.W.codeIn K cd "_law_pick" = true) (k : PySem.W.keepIn K (.ref f) = true) : ∀ fe, fns[8]? = some fe → DefOk K mg gi Ps 8 fe := fun fe e => by
  cases e
  refine ⟨⟨w__law_pick, "_law_pick", "_law_pick", top 15, f, _, n__law_pick, rfl, fun_mk l c k, s__law_pick, rfl, rfl, c__law_pick, PySem.W.mg_of X N a, (fun_mk l c k).binds (fun _ _ _ _ _ _ us hl => match us, hl with | [_, _], _ => rfl), fun e he => ?_⟩⟩
  cases he
theorem d__law_same {K : PySem.W.Frag} {h : Heap} {mg : Str → Option Value} {f : Addr} {oc kV dc pm cd ct : Value} {od an : Option Addr} {sl : Array (Option Value)} (X : K.In h) (N : h.Ns mainGlobals mg) (a : PySem.W.nsIn K mainGlobals "_law_same" = some (some (.ref f)))
    (l : K.lookup f = some ⟨oc, od, .func (PySem.W.fnOf "_law_same" "_law_same" (defArgs (top 16)) (defBody (top 16)) (defScope (top 16)) .none kV dc pm an cd ct), sl⟩) (c : PySem.W.codeIn K cd "_law_same" = true) (k : PySem.W.keepIn K (.ref f) = true) : ∀ fe, fns[9]? = some fe → DefOk K mg gi Ps 9 fe := fun fe e => by
  cases e
  refine ⟨⟨w__law_same, "_law_same", "_law_same", top 16, f, _, n__law_same, rfl, fun_mk l c k, s__law_same, rfl, rfl, c__law_same, PySem.W.mg_of X N a, (fun_mk l c k).binds (fun _ _ _ _ _ _ us hl => match us, hl with | [_, _], _ => rfl), fun e he => ?_⟩⟩
  cases he
theorem d__law_is_number {K : PySem.W.Frag} {h : Heap} {mg : Str → Option Value} {f : Addr} {oc kV dc pm cd ct : Value} {od an : Option Addr} {sl : Array (Option Value)} (X : K.In h) (N : h.Ns mainGlobals mg) (a : PySem.W.nsIn K mainGlobals "_law_is_number" = some (some (.ref f)))
    (l : K.lookup f = some ⟨oc, od, .func (PySem.W.fnOf "_law_is_number" "_law_is_number" (defArgs (top 17)) (defBody (top 17)) (defScope (top 17)) .none kV dc pm an cd ct), sl⟩) (c : PySem.W.codeIn K cd "_law_is_number" = true) (k : PySem.W.keepIn K (.ref f) = true) : ∀ fe, fns[10]? = some fe → DefOk K mg gi Ps 10 fe := fun fe e => by
  cases e
  refine ⟨⟨w__law_is_number, "_law_is_number", "_law_is_number", top 17, f, _, n__law_is_number, rfl, fun_mk l c k, s__law_is_number, rfl, rfl, c__law_is_number, PySem.W.mg_of X N a, (fun_mk l c k).binds (fun _ _ _ _ _ _ us hl => match us, hl with | [_, _, _], _ => rfl), fun e he => ?_⟩⟩
  cases he
theorem d__law_size {K : PySem.W.Frag} {h : Heap} {mg : Str → Option Value} {f : Addr} {oc kV dc pm cd ct : Value} {od an : Option Addr} {sl : Array (Option Value)} (X : K.In h) (N : h.Ns mainGlobals mg) (a : PySem.W.nsIn K mainGlobals "_law_size" = some (some (.ref f)))
    (l : K.lookup f = some ⟨oc, od, .func (PySem.W.fnOf "_law_size" "_law_size" (defArgs (top 18)) (defBody (top 18)) (defScope (top 18)) .none kV dc pm an cd ct), sl⟩) (c : PySem.W.codeIn K cd "_law_size" = true) (k : PySem.W.keepIn K (.ref f) = true) : ∀ fe, fns[11]? = some fe → DefOk K mg gi Ps 11 fe := fun fe e => by
  cases e
  refine ⟨⟨w__law_size, "_law_size", "_law_size", top 18, f, _, n__law_size, rfl, fun_mk l c k, s__law_size, rfl, rfl, c__law_size, PySem.W.mg_of X N a, (fun_mk l c k).binds (fun _ _ _ _ _ _ us hl => match us, hl with | [_, _], _ => rfl), fun e he => ?_⟩⟩
  cases he
theorem d__law_is_condition {K : PySem.W.Frag} {h : Heap} {mg : Str → Option Value} {f : Addr} {oc kV dc pm cd ct : Value} {od an : Option Addr} {sl : Array (Option Value)} (X : K.In h) (N : h.Ns mainGlobals mg) (a : PySem.W.nsIn K mainGlobals "_law_is_condition" = some (some (.ref f)))
    (l : K.lookup f = some ⟨oc, od, .func (PySem.W.fnOf "_law_is_condition" "_law_is_condition" (defArgs (top 19)) (defBody (top 19)) (defScope (top 19)) .none kV dc pm an cd ct), sl⟩) (c : PySem.W.codeIn K cd "_law_is_condition" = true) (k : PySem.W.keepIn K (.ref f) = true) : ∀ fe, fns[12]? = some fe → DefOk K mg gi Ps 12 fe := fun fe e => by
  cases e
  refine ⟨⟨w__law_is_condition, "_law_is_condition", "_law_is_condition", top 19, f, _, n__law_is_condition, rfl, fun_mk l c k, s__law_is_condition, rfl, rfl, c__law_is_condition, PySem.W.mg_of X N a, (fun_mk l c k).binds (fun _ _ _ _ _ _ us hl => match us, hl with | [_], _ => rfl), fun e he => ?_⟩⟩
  cases he
theorem d__law_shaped {K : PySem.W.Frag} {h : Heap} {mg : Str → Option Value} {f : Addr} {oc kV dc pm cd ct : Value} {od an : Option Addr} {sl : Array (Option Value)} (X : K.In h) (N : h.Ns mainGlobals mg) (a : PySem.W.nsIn K mainGlobals "_law_shaped" = some (some (.ref f)))
    (l : K.lookup f = some ⟨oc, od, .func (PySem.W.fnOf "_law_shaped" "_law_shaped" (defArgs (top 20)) (defBody (top 20)) (defScope (top 20)) .none kV dc pm an cd ct), sl⟩) (c : PySem.W.codeIn K cd "_law_shaped" = true) (k : PySem.W.keepIn K (.ref f) = true) : ∀ fe, fns[13]? = some fe → DefOk K mg gi Ps 13 fe := fun fe e => by
  cases e
  refine ⟨⟨w__law_shaped, "_law_shaped", "_law_shaped", top 20, f, _, n__law_shaped, rfl, fun_mk l c k, s__law_shaped, rfl, rfl, c__law_shaped, PySem.W.mg_of X N a, (fun_mk l c k).binds (fun _ _ _ _ _ _ us hl => match us, hl with | [_, _, _], _ => rfl), fun e he => ?_⟩⟩
  cases he
theorem d__law_deep {K : PySem.W.Frag} {h : Heap} {mg : Str → Option Value} {f : Addr} {oc kV dc pm cd ct : Value} {od an : Option Addr} {sl : Array (Option Value)} (X : K.In h) (N : h.Ns mainGlobals mg) (a : PySem.W.nsIn K mainGlobals "_law_deep" = some (some (.ref f)))
    (l : K.lookup f = some ⟨oc, od, .func (PySem.W.fnOf "_law_deep" "_law_deep" (defArgs (top 21)) (defBody (top 21)) (defScope (top 21)) .none kV dc pm an cd ct), sl⟩) (c : PySem.W.codeIn K cd "_law_deep" = true) (k : PySem.W.keepIn K (.ref f) = true) : ∀ fe, fns[14]? = some fe → DefOk K mg gi Ps 14 fe := fun fe e => by
  cases e
  refine ⟨⟨w__law_deep, "_law_deep", "_law_deep", top 21, f, _, n__law_deep, rfl, fun_mk l c k, s__law_deep, rfl, rfl, c__law_deep, PySem.W.mg_of X N a, (fun_mk l c k).binds (fun _ _ _ _ _ _ us hl => match us, hl with | [_], _ => rfl), fun e he => ?_⟩⟩
  cases he
theorem d__law_bent {K : PySem.W.Frag} {h : Heap} {mg : Str → Option Value} {f : Addr} {oc kV dc pm cd ct : Value} {od an : Option Addr} {sl : Array (Option Value)} (X : K.In h) (N : h.Ns mainGlobals mg) (a : PySem.W.nsIn K mainGlobals "_law_bent" = some (some (.ref f)))
    (l : K.lookup f = some ⟨oc, od, .func (PySem.W.fnOf "_law_bent" "_law_bent" (defArgs (top 22)) (defBody (top 22)) (defScope (top 22)) .none kV dc pm an cd ct), sl⟩) (c : PySem.W.codeIn K cd "_law_bent" = true) (k : PySem.W.keepIn K (.ref f) = true) : ∀ fe, fns[15]? = some fe → DefOk K mg gi Ps 15 fe := fun fe e => by
  cases e
  refine ⟨⟨w__law_bent, "_law_bent", "_law_bent", top 22, f, _, n__law_bent, rfl, fun_mk l c k, s__law_bent, rfl, rfl, c__law_bent, PySem.W.mg_of X N a, (fun_mk l c k).binds (fun _ _ _ _ _ _ us hl => match us, hl with | [_, _, _], _ => rfl), fun e he => ?_⟩⟩
  cases he
theorem d_law {K : PySem.W.Frag} {h : Heap} {mg : Str → Option Value} {f : Addr} {oc kV dc pm cd ct : Value} {od an : Option Addr} {sl : Array (Option Value)} (X : K.In h) (N : h.Ns mainGlobals mg) (a : PySem.W.nsIn K mainGlobals "law" = some (some (.ref f)))
    (l : K.lookup f = some ⟨oc, od, .func (PySem.W.fnOf "law" "law" (defArgs (top 23)) (defBody (top 23)) (defScope (top 23)) .none kV dc pm an cd ct), sl⟩) (c : PySem.W.codeIn K cd "law" = true) (k : PySem.W.keepIn K (.ref f) = true) : ∀ fe, fns[16]? = some fe → DefOk K mg gi Ps 16 fe := fun fe e => by
  cases e
  refine ⟨⟨w_law, "law", "law", top 23, f, _, n_law, rfl, fun_mk l c k, s_law, rfl, rfl, c_law, PySem.W.mg_of X N a, (fun_mk l c k).binds (fun _ _ _ _ _ _ us hl => match us, hl with | [_], _ => rfl), fun e he => ?_⟩⟩
  cases he
theorem all_mk {P : Program} {w : World} {K : PySem.W.Frag} {h : Heap} {mg : Str → Option Value} {fa : Addr} (X : K.In h) (N : h.Ns mainGlobals mg) (hfa : mg "law" = some (.ref fa))
    {f0 : Addr} {oc0 kV0 dc0 pm0 cd0 ct0 : Value} {od0 an0 : Option Addr} {sl0 : Array (Option Value)}
    (a0 : PySem.W.nsIn K mainGlobals "is_number" = some (some (.ref f0))) (l0 : K.lookup f0 = some ⟨oc0, od0, .func (PySem.W.fnOf "is_number" "is_number" (defArgs (top 1)) (defBody (top 1)) (defScope (top 1)) .none kV0 dc0 pm0 an0 cd0 ct0), sl0⟩) (c0 : PySem.W.codeIn K cd0 "is_number" = true) (k0 : PySem.W.keepIn K (.ref f0) = true)
    {f1 : Addr} {oc1 kV1 dc1 pm1 cd1 ct1 : Value} {od1 an1 : Option Addr} {sl1 : Array (Option Value)}
    (a1 : PySem.W.nsIn K mainGlobals "parts_of_grade" = some (some (.ref f1))) (l1 : K.lookup f1 = some ⟨oc1, od1, .func (PySem.W.fnOf "parts_of_grade" "parts_of_grade" (defArgs (top 7)) (defBody (top 7)) (defScope (top 7)) .none kV1 dc1 pm1 an1 cd1 ct1), sl1⟩) (c1 : PySem.W.codeIn K cd1 "parts_of_grade" = true) (k1 : PySem.W.keepIn K (.ref f1) = true)
    {f2 : Addr} {oc2 kV2 dc2 pm2 cd2 ct2 : Value} {od2 an2 : Option Addr} {sl2 : Array (Option Value)}
    (a2 : PySem.W.nsIn K mainGlobals "parts_of_points" = some (some (.ref f2))) (l2 : K.lookup f2 = some ⟨oc2, od2, .func (PySem.W.fnOf "parts_of_points" "parts_of_points" (defArgs (top 8)) (defBody (top 8)) (defScope (top 8)) .none kV2 dc2 pm2 an2 cd2 ct2), sl2⟩) (c2 : PySem.W.codeIn K cd2 "parts_of_points" = true) (k2 : PySem.W.keepIn K (.ref f2) = true)
    {f3 : Addr} {oc3 kV3 dc3 pm3 cd3 ct3 : Value} {od3 an3 : Option Addr} {sl3 : Array (Option Value)}
    (a3 : PySem.W.nsIn K mainGlobals "parts_of_many" = some (some (.ref f3))) (l3 : K.lookup f3 = some ⟨oc3, od3, .func (PySem.W.fnOf "parts_of_many" "parts_of_many" (defArgs (top 9)) (defBody (top 9)) (defScope (top 9)) .none kV3 dc3 pm3 an3 cd3 ct3), sl3⟩) (c3 : PySem.W.codeIn K cd3 "parts_of_many" = true) (k3 : PySem.W.keepIn K (.ref f3) = true)
    {f4 : Addr} {oc4 kV4 dc4 pm4 cd4 ct4 : Value} {od4 an4 : Option Addr} {sl4 : Array (Option Value)}
    (a4 : PySem.W.nsIn K mainGlobals "parts_of" = some (some (.ref f4))) (l4 : K.lookup f4 = some ⟨oc4, od4, .func (PySem.W.fnOf "parts_of" "parts_of" (defArgs (top 10)) (defBody (top 10)) (defScope (top 10)) .none kV4 dc4 pm4 an4 cd4 ct4), sl4⟩) (c4 : PySem.W.codeIn K cd4 "parts_of" = true) (k4 : PySem.W.keepIn K (.ref f4) = true)
    {f5 : Addr} {oc5 kV5 dc5 pm5 cd5 ct5 : Value} {od5 an5 : Option Addr} {sl5 : Array (Option Value)}
    (a5 : PySem.W.nsIn K mainGlobals "check_condition" = some (some (.ref f5))) (l5 : K.lookup f5 = some ⟨oc5, od5, .func (PySem.W.fnOf "check_condition" "check_condition" (defArgs (top 11)) (defBody (top 11)) (defScope (top 11)) .none kV5 dc5 pm5 an5 cd5 ct5), sl5⟩) (c5 : PySem.W.codeIn K cd5 "check_condition" = true) (k5 : PySem.W.keepIn K (.ref f5) = true)
    {f6 : Addr} {oc6 kV6 dc6 pm6 cd6 ct6 : Value} {od6 an6 : Option Addr} {sl6 : Array (Option Value)}
    (a6 : PySem.W.nsIn K mainGlobals "_law_flow" = some (some (.ref f6))) (l6 : K.lookup f6 = some ⟨oc6, od6, .func (PySem.W.fnOf "_law_flow" "_law_flow" (defArgs (top 13)) (defBody (top 13)) (defScope (top 13)) .none kV6 dc6 pm6 an6 cd6 ct6), sl6⟩) (c6 : PySem.W.codeIn K cd6 "_law_flow" = true) (k6 : PySem.W.keepIn K (.ref f6) = true)
    {f7 : Addr} {oc7 kV7 dc7 pm7 cd7 ct7 : Value} {od7 an7 : Option Addr} {sl7 : Array (Option Value)}
    (a7 : PySem.W.nsIn K mainGlobals "_law_draw" = some (some (.ref f7))) (l7 : K.lookup f7 = some ⟨oc7, od7, .func (PySem.W.fnOf "_law_draw" "_law_draw" (defArgs (top 14)) (defBody (top 14)) (defScope (top 14)) .none kV7 dc7 pm7 an7 cd7 ct7), sl7⟩) (c7 : PySem.W.codeIn K cd7 "_law_draw" = true) (k7 : PySem.W.keepIn K (.ref f7) = true)
    {f8 : Addr} {oc8 kV8 dc8 pm8 cd8 ct8 : Value} {od8 an8 : Option Addr} {sl8 : Array (Option Value)}
    (a8 : PySem.W.nsIn K mainGlobals "_law_pick" = some (some (.ref f8))) (l8 : K.lookup f8 = some ⟨oc8, od8, .func (PySem.W.fnOf "_law_pick" "_law_pick" (defArgs (top 15)) (defBody (top 15)) (defScope (top 15)) .none kV8 dc8 pm8 an8 cd8 ct8), sl8⟩) (c8 : PySem.W.codeIn K cd8 "_law_pick" = true) (k8 : PySem.W.keepIn K (.ref f8) = true)
    {f9 : Addr} {oc9 kV9 dc9 pm9 cd9 ct9 : Value} {od9 an9 : Option Addr} {sl9 : Array (Option Value)}
    (a9 : PySem.W.nsIn K mainGlobals "_law_same" = some (some (.ref f9))) (l9 : K.lookup f9 = some ⟨oc9, od9, .func (PySem.W.fnOf "_law_same" "_law_same" (defArgs (top 16)) (defBody (top 16)) (defScope (top 16)) .none kV9 dc9 pm9 an9 cd9 ct9), sl9⟩) (c9 : PySem.W.codeIn K cd9 "_law_same" = true) (k9 : PySem.W.keepIn K (.ref f9) = true)
    {f10 : Addr} {oc10 kV10 dc10 pm10 cd10 ct10 : Value} {od10 an10 : Option Addr} {sl10 : Array (Option Value)}
    (a10 : PySem.W.nsIn K mainGlobals "_law_is_number" = some (some (.ref f10))) (l10 : K.lookup f10 = some ⟨oc10, od10, .func (PySem.W.fnOf "_law_is_number" "_law_is_number" (defArgs (top 17)) (defBody (top 17)) (defScope (top 17)) .none kV10 dc10 pm10 an10 cd10 ct10), sl10⟩) (c10 : PySem.W.codeIn K cd10 "_law_is_number" = true) (k10 : PySem.W.keepIn K (.ref f10) = true)
    {f11 : Addr} {oc11 kV11 dc11 pm11 cd11 ct11 : Value} {od11 an11 : Option Addr} {sl11 : Array (Option Value)}
    (a11 : PySem.W.nsIn K mainGlobals "_law_size" = some (some (.ref f11))) (l11 : K.lookup f11 = some ⟨oc11, od11, .func (PySem.W.fnOf "_law_size" "_law_size" (defArgs (top 18)) (defBody (top 18)) (defScope (top 18)) .none kV11 dc11 pm11 an11 cd11 ct11), sl11⟩) (c11 : PySem.W.codeIn K cd11 "_law_size" = true) (k11 : PySem.W.keepIn K (.ref f11) = true)
    {f12 : Addr} {oc12 kV12 dc12 pm12 cd12 ct12 : Value} {od12 an12 : Option Addr} {sl12 : Array (Option Value)}
    (a12 : PySem.W.nsIn K mainGlobals "_law_is_condition" = some (some (.ref f12))) (l12 : K.lookup f12 = some ⟨oc12, od12, .func (PySem.W.fnOf "_law_is_condition" "_law_is_condition" (defArgs (top 19)) (defBody (top 19)) (defScope (top 19)) .none kV12 dc12 pm12 an12 cd12 ct12), sl12⟩) (c12 : PySem.W.codeIn K cd12 "_law_is_condition" = true) (k12 : PySem.W.keepIn K (.ref f12) = true)
    {f13 : Addr} {oc13 kV13 dc13 pm13 cd13 ct13 : Value} {od13 an13 : Option Addr} {sl13 : Array (Option Value)}
    (a13 : PySem.W.nsIn K mainGlobals "_law_shaped" = some (some (.ref f13))) (l13 : K.lookup f13 = some ⟨oc13, od13, .func (PySem.W.fnOf "_law_shaped" "_law_shaped" (defArgs (top 20)) (defBody (top 20)) (defScope (top 20)) .none kV13 dc13 pm13 an13 cd13 ct13), sl13⟩) (c13 : PySem.W.codeIn K cd13 "_law_shaped" = true) (k13 : PySem.W.keepIn K (.ref f13) = true)
    {f14 : Addr} {oc14 kV14 dc14 pm14 cd14 ct14 : Value} {od14 an14 : Option Addr} {sl14 : Array (Option Value)}
    (a14 : PySem.W.nsIn K mainGlobals "_law_deep" = some (some (.ref f14))) (l14 : K.lookup f14 = some ⟨oc14, od14, .func (PySem.W.fnOf "_law_deep" "_law_deep" (defArgs (top 21)) (defBody (top 21)) (defScope (top 21)) .none kV14 dc14 pm14 an14 cd14 ct14), sl14⟩) (c14 : PySem.W.codeIn K cd14 "_law_deep" = true) (k14 : PySem.W.keepIn K (.ref f14) = true)
    {f15 : Addr} {oc15 kV15 dc15 pm15 cd15 ct15 : Value} {od15 an15 : Option Addr} {sl15 : Array (Option Value)}
    (a15 : PySem.W.nsIn K mainGlobals "_law_bent" = some (some (.ref f15))) (l15 : K.lookup f15 = some ⟨oc15, od15, .func (PySem.W.fnOf "_law_bent" "_law_bent" (defArgs (top 22)) (defBody (top 22)) (defScope (top 22)) .none kV15 dc15 pm15 an15 cd15 ct15), sl15⟩) (c15 : PySem.W.codeIn K cd15 "_law_bent" = true) (k15 : PySem.W.keepIn K (.ref f15) = true)
    {f16 : Addr} {oc16 kV16 dc16 pm16 cd16 ct16 : Value} {od16 an16 : Option Addr} {sl16 : Array (Option Value)}
    (a16 : PySem.W.nsIn K mainGlobals "law" = some (some (.ref f16))) (l16 : K.lookup f16 = some ⟨oc16, od16, .func (PySem.W.fnOf "law" "law" (defArgs (top 23)) (defBody (top 23)) (defScope (top 23)) .none kV16 dc16 pm16 an16 cd16 ct16), sl16⟩) (c16 : PySem.W.codeIn K cd16 "law" = true) (k16 : PySem.W.keepIn K (.ref f16) = true)
    (z_len : PySem.W.nsIn K mainGlobals "len" = some none)
    (z_abs : PySem.W.nsIn K mainGlobals "abs" = some none)
    (z_int : PySem.W.nsIn K mainGlobals "int" = some none)
    (z_min : PySem.W.nsIn K mainGlobals "min" = some none)
    (z_max : PySem.W.nsIn K mainGlobals "max" = some none)
    (z_sum : PySem.W.nsIn K mainGlobals "sum" = some none)
    (z_sorted : PySem.W.nsIn K mainGlobals "sorted" = some none)
    (z_list : PySem.W.nsIn K mainGlobals "list" = some none)
    (z_tuple : PySem.W.nsIn K mainGlobals "tuple" = some none)
    (z_range : PySem.W.nsIn K mainGlobals "range" = some none)
    (z_zip : PySem.W.nsIn K mainGlobals "zip" = some none)
    (z_enumerate : PySem.W.nsIn K mainGlobals "enumerate" = some none)
    (z_isinstance : PySem.W.nsIn K mainGlobals "isinstance" = some none)
    (z_bool : PySem.W.nsIn K mainGlobals "bool" = some none)
    (z_str : PySem.W.nsIn K mainGlobals "str" = some none)
    {t0 : Tok} (kon0 : PySem.W.nsIn K mainGlobals "SUBJECTS" = some (some (.int 8 t0)))
    {t1 : Tok} (kon1 : PySem.W.nsIn K mainGlobals "MOST_POINTS" = some (some (.int 480 t1)))
    {t2 : Tok} (kon2 : PySem.W.nsIn K mainGlobals "MOST_LEVELS" = some (some (.int 6 t2)))
    {t3 : Tok} (kon3 : PySem.W.nsIn K mainGlobals "MOST_PARTS" = some (some (.int 20 t3))) (n : Nat) :
    ∃ fd : FuncData, (∀ (s : Shared) (v : Value), BindsTo s fd ⟨[v], []⟩ [("script", v)]) ∧ ∀ base : Heap, K.In base → base.Ns mainGlobals mg → FnOk P w K mg base CX0 (n + 1) fa fd ["script"] (spF K (runF G Ps (calls G Ps n) 16) 1) := by
  have e := hfa.symm.trans (PySem.W.mg_of X N a16)
  cases e
  have all : ∀ i fe, gi.fns[i]? = some fe → DefOk K mg gi Ps i fe := by
    intro i fe hi
    match i, hi with
    | 0, hi => exact d_is_number X N a0 l0 c0 k0 fe hi
    | 1, hi => exact d_parts_of_grade X N a1 l1 c1 k1 fe hi
    | 2, hi => exact d_parts_of_points X N a2 l2 c2 k2 fe hi
    | 3, hi => exact d_parts_of_many X N a3 l3 c3 k3 fe hi
    | 4, hi => exact d_parts_of X N a4 l4 c4 k4 fe hi
    | 5, hi => exact d_check_condition X N a5 l5 c5 k5 fe hi
    | 6, hi => exact d__law_flow X N a6 l6 c6 k6 fe hi
    | 7, hi => exact d__law_draw X N a7 l7 c7 k7 fe hi
    | 8, hi => exact d__law_pick X N a8 l8 c8 k8 fe hi
    | 9, hi => exact d__law_same X N a9 l9 c9 k9 fe hi
    | 10, hi => exact d__law_is_number X N a10 l10 c10 k10 fe hi
    | 11, hi => exact d__law_size X N a11 l11 c11 k11 fe hi
    | 12, hi => exact d__law_is_condition X N a12 l12 c12 k12 fe hi
    | 13, hi => exact d__law_shaped X N a13 l13 c13 k13 fe hi
    | 14, hi => exact d__law_deep X N a14 l14 c14 k14 fe hi
    | 15, hi => exact d__law_bent X N a15 l15 c15 k15 fe hi
    | 16, hi => exact d_law X N a16 l16 c16 k16 fe hi
    | n + 17, hi => cases hi
  have blt : ∀ x ∈ bltNames, mg x = none := by
    intro x hx
    unfold bltNames at hx
    simp only [List.mem_cons, List.not_mem_nil, or_false] at hx
    rcases hx with rfl | rfl | rfl | rfl | rfl | rfl | rfl | rfl | rfl | rfl | rfl | rfl | rfl | rfl | rfl
    · exact PySem.W.mg_none_of X N z_len
    · exact PySem.W.mg_none_of X N z_abs
    · exact PySem.W.mg_none_of X N z_int
    · exact PySem.W.mg_none_of X N z_min
    · exact PySem.W.mg_none_of X N z_max
    · exact PySem.W.mg_none_of X N z_sum
    · exact PySem.W.mg_none_of X N z_sorted
    · exact PySem.W.mg_none_of X N z_list
    · exact PySem.W.mg_none_of X N z_tuple
    · exact PySem.W.mg_none_of X N z_range
    · exact PySem.W.mg_none_of X N z_zip
    · exact PySem.W.mg_none_of X N z_enumerate
    · exact PySem.W.mg_none_of X N z_isinstance
    · exact PySem.W.mg_none_of X N z_bool
    · exact PySem.W.mg_none_of X N z_str
  have con : ∀ (i : Nat) (x : Str) (d : D), gi.cons[i]? = some x → G[i]? = some d → ∃ v u, mg x = some u ∧ RelV v u ∧ ∀ φ n H, RV K φ n H v d := by
    intro i x d hx hd
    match i, hx, hd with
    | 0, hx, hd => cases hx; cases hd; exact ⟨.int 8, _, PySem.W.mg_of X N kon0, ⟨_, rfl⟩, fun _ _ _ => .int _⟩
    | 1, hx, hd => cases hx; cases hd; exact ⟨.int 480, _, PySem.W.mg_of X N kon1, ⟨_, rfl⟩, fun _ _ _ => .int _⟩
    | 2, hx, hd => cases hx; cases hd; exact ⟨.int 6, _, PySem.W.mg_of X N kon2, ⟨_, rfl⟩, fun _ _ _ => .int _⟩
    | 3, hx, hd => cases hx; cases hd; exact ⟨.int 20, _, PySem.W.mg_of X N kon3, ⟨_, rfl⟩, fun _ _ _ => .int _⟩
    | n + 4, hx, _ => cases hx
  exact ⟨_, fun s v => .of_eq rfl, fun base _ _ => by
    have z := fn_ok (P := P) (w := w) (base := base) (G := G) (Ps := Ps) (cf := calls G Ps n) (f := 16) (fe := ⟨"law", ["script"], []⟩) rfl (fun_mk l16 c16 k16) s_law rfl rfl c_law (calls_ok all blt con n) blt con
    rw [calls_length] at z
    exact z⟩

end Kp

namespace Kp
open PySem
/-! ### plain facts about the reckoner -/
mutual
theorem low_pur (n : Nat) : ∀ d : D, pur d = true → low n d = true
  | .non, _ => rfl
  | .bl _, _ => rfl
  | .int _, _ => rfl
  | .str _, _ => rfl
  | .tup ds, h => lows_pur n ds h
  | .lst ds, h => lows_pur n ds h
  | .ref _, h => by cases h
  | .rol _, h => by cases h
theorem lows_pur (n : Nat) : ∀ ds : List D, purs ds = true → lows n ds = true
  | [], _ => rfl
  | d :: ds, h => by
    have h : (pur d && purs ds) = true := h
    rw [Bool.and_eq_true] at h
    show (low n d && lows n ds) = true
    rw [low_pur n d h.1, lows_pur n ds h.2]
    rfl
end
theorem shut_pur {n : Nat} {s : S} {d : D} (h : pur d = true) : shut n s d = d := by
  cases d <;> first | rfl | cases h
theorem fin_same {s : S} {d : D} (h : pur d = true) : fin false s d s = some (d, s) := by
  unfold fin
  rw [if_neg Bool.false_ne_true, shut_pur h, if_pos ⟨low_pur _ d h, fun j _ => .inl rfl⟩, List.take_length]
theorem fin_int {s : S} {i : Int} : fin false s (.int i) s = some (.int i, s) := fin_same rfl
theorem fin_bl {s : S} {i : Bool} : fin false s (.bl i) s = some (.bl i, s) := fin_same rfl
theorem fin_str {s : S} {i : Str} : fin false s (.str i) s = some (.str i, s) := fin_same rfl
theorem fin_non {s : S} : fin false s .non s = some (.non, s) := fin_same rfl
theorem pur_int {i : Int} : pur (.int i) = true := rfl
theorem pur_bl {i : Bool} : pur (.bl i) = true := rfl
theorem pur_str {i : Str} : pur (.str i) = true := rfl
theorem pur_non : pur .non = true := rfl
theorem pur_tup {ds : List D} : pur (.tup ds) = purs ds := rfl
theorem purs_nil : purs [] = true := rfl
theorem purs_cons {d : D} {ds : List D} : purs (d :: ds) = (pur d && purs ds) := rfl
theorem dep_int {i : Int} : dep (.int i) = 0 := rfl
theorem dep_bl {i : Bool} : dep (.bl i) = 0 := rfl
theorem dep_str {i : Str} : dep (.str i) = 0 := rfl
theorem dep_non : dep .non = 0 := rfl
noncomputable def R (n f : Nat) (ds : List D) (s : S) : Option (D × S) := runF G Ps (calls G Ps n) f ds s
theorem ev_call {n f : Nat} {as : Es} {env : Env} {s : S} : ev G (calls G Ps (n + 1)) (.call f as) env s = bd (evs G (calls G Ps (n + 1)) as env s) fun vs s1 => R n f vs s1 := rfl
/-- a def's run -/
theorem R_eq {n f : Nat} {fn : Fn} {ds : List D} {s : S} (h : Ps[f]? = some fn) (hl : ds.length = fn.ps) : R n f ds s = match exs G (calls G Ps n) fn.body (ds.map some ++ List.replicate (fn.nl - ds.length) none) s with
    | some (.rt d, _, s') => fin fn.keep s d s'
    | some (.nx, _, s') => fin fn.keep s .non s'
    | _ => none := by
  unfold R runF
  rw [h]
  exact (if_pos hl).trans rfl
theorem view_int {s : S} {i : Int} : view s (.int i) = .int i := rfl
theorem view_bl {s : S} {i : Bool} : view s (.bl i) = .bl i := rfl
theorem view_str {s : S} {i : Str} : view s (.str i) = .str i := rfl
theorem view_non {s : S} : view s .non = .non := rfl
theorem view_tup {s : S} {ds : List D} : view s (.tup ds) = .tup ds := rfl
theorem view_lst {s : S} {ds : List D} : view s (.lst ds) = .lst ds := rfl
theorem view_pur {s : S} {d : D} (h : pur d = true) : view s d = d := by
  cases d <;> first | rfl | cases h
theorem G_0 : G[0]? = some (.int 8) := rfl
theorem G_1 : G[1]? = some (.int 480) := rfl
theorem G_2 : G[2]? = some (.int 6) := rfl
theorem G_3 : G[3]? = some (.int 20) := rfl
def isNum (v : D) (lo hi : Int) : Bool := match v with
  | .int i => decide (lo ≤ i) && decide (i ≤ hi)
  | _ => false
mutual
def okV : D → Bool
  | .tup ds => decide (ds.length ≤ 1000) && okVs ds
  | .lst _ => false
  | .ref _ => false
  | .rol _ => false
  | _ => true
def okVs : List D → Bool
  | [] => true
  | d :: ds => okV d && okVs ds
end
mutual
theorem pur_ok : ∀ d : D, okV d = true → pur d = true
  | .non, _ => rfl
  | .bl _, _ => rfl
  | .int _, _ => rfl
  | .str _, _ => rfl
  | .tup ds, h => by
    have h : (decide (ds.length ≤ 1000) && okVs ds) = true := h
    rw [Bool.and_eq_true] at h
    exact purs_ok ds h.2
  | .lst _, h => by cases h
  | .ref _, h => by cases h
  | .rol _, h => by cases h
theorem purs_ok : ∀ ds : List D, okVs ds = true → purs ds = true
  | [], _ => rfl
  | d :: ds, h => by
    have h : (okV d && okVs ds) = true := h
    rw [Bool.and_eq_true] at h
    show (pur d && purs ds) = true
    rw [pur_ok d h.1, purs_ok ds h.2]
    rfl
end
theorem num_ok {n : Nat} {v : D} {lo hi : Int} {s : S} (hv : okV v = true) : R n 0 [v, .int lo, .int hi] s = some (.bl (isNum v lo hi), s) := by
  rw [R_eq (fn := w_is_number) rfl rfl]
  cases v with
  | int i =>
    by_cases h1 : lo ≤ i <;> simp [w_is_number, exs, ex, ev, ↓ev_call, evs, evt, evo, evi, evand, evor, bd_some, bd_none, truD, cmpD, biD, seqOf, lstOf, eqD, view_int, view_bl, view_str, view_non, view_tup, view_lst, deq, deqs, dep_int, dep_bl, dep_str, dep_non, pur_int, pur_bl, pur_str, pur_non, pur_tup, purs_nil, purs_cons, asgT, asgTs, idxD, ixD, isiD, binD, iopD, fin_int, fin_bl, fin_str, fin_non, isNum, h1]
  | ref _ => cases hv
  | rol _ => cases hv
  | _ => simp [w_is_number, exs, ex, ev, ↓ev_call, evs, evt, evo, evi, evand, evor, bd_some, bd_none, truD, cmpD, biD, seqOf, lstOf, eqD, view_int, view_bl, view_str, view_non, view_tup, view_lst, deq, deqs, dep_int, dep_bl, dep_str, dep_non, pur_int, pur_bl, pur_str, pur_non, pur_tup, purs_nil, purs_cons, asgT, asgTs, idxD, ixD, isiD, binD, iopD, fin_int, fin_bl, fin_str, fin_non, isNum]
theorem num2_ok {n : Nat} {v : D} {lo hi : Int} {s : S} (hv : okV v = true) : R n 10 [v, .int lo, .int hi] s = some (.bl (isNum v lo hi), s) := by
  rw [R_eq (fn := w__law_is_number) rfl rfl]
  cases v with
  | int i =>
    by_cases h1 : lo ≤ i <;> simp [w__law_is_number, exs, ex, ev, ↓ev_call, evs, evt, evo, evi, evand, evor, bd_some, bd_none, truD, cmpD, biD, seqOf, lstOf, eqD, view_int, view_bl, view_str, view_non, view_tup, view_lst, deq, deqs, dep_int, dep_bl, dep_str, dep_non, pur_int, pur_bl, pur_str, pur_non, pur_tup, purs_nil, purs_cons, asgT, asgTs, idxD, ixD, isiD, binD, iopD, fin_int, fin_bl, fin_str, fin_non, isNum, h1]
  | ref _ => cases hv
  | rol _ => cases hv
  | _ => simp [w__law_is_number, exs, ex, ev, ↓ev_call, evs, evt, evo, evi, evand, evor, bd_some, bd_none, truD, cmpD, biD, seqOf, lstOf, eqD, view_int, view_bl, view_str, view_non, view_tup, view_lst, deq, deqs, dep_int, dep_bl, dep_str, dep_non, pur_int, pur_bl, pur_str, pur_non, pur_tup, purs_nil, purs_cons, asgT, asgTs, idxD, ixD, isiD, binD, iopD, fin_int, fin_bl, fin_str, fin_non, isNum]
theorem okVs_get {ds : List D} (h : okVs ds = true) : ∀ {i : Nat} {d : D}, ds[i]? = some d → okV d = true := by
  induction ds with
  | nil => intro i d e; simp at e
  | cons x xs ih =>
    have h : (okV x && okVs xs) = true := h
    rw [Bool.and_eq_true] at h
    intro i d e
    cases i with
    | zero => simp at e; subst e; exact h.1
    | succ i => simp at e; exact ih h.2 e
theorem s_pg : (("points" : Str) == "grade") = false := by decide +kernel
theorem s_ag : (("and" : Str) == "grade") = false := by decide +kernel
theorem s_ap : (("and" : Str) == "points") = false := by decide +kernel
theorem s_og : (("or" : Str) == "grade") = false := by decide +kernel
theorem s_op : (("or" : Str) == "points") = false := by decide +kernel
theorem s_oa : (("or" : Str) == "and") = false := by decide +kernel
theorem q_pg : ¬ ("points" : Str) = "grade" := by decide +kernel
theorem q_ag : ¬ ("and" : Str) = "grade" := by decide +kernel
theorem q_ap : ¬ ("and" : Str) = "points" := by decide +kernel
theorem q_og : ¬ ("or" : Str) = "grade" := by decide +kernel
theorem q_op : ¬ ("or" : Str) = "points" := by decide +kernel
theorem q_oa : ¬ ("or" : Str) = "and" := by decide +kernel
def gradeB (ds : List D) : Bool := match ds with
  | [_, a, b] => isNum a 0 7 && isNum b 0 6
  | _ => false
def pointB (ds : List D) : Bool := match ds with
  | [_, a] => isNum a 0 480
  | _ => false
theorem grade_ok {n : Nat} {ds : List D} {s : S} (hv : okVs ds = true) : R (n + 1) 1 [.tup ds] s = some (.int (if gradeB ds then 1 else 0), s) := by
  rw [R_eq (fn := w_parts_of_grade) rfl rfl]
  match ds, hv with
  | [a, b, c], hv =>
    simp only [okVs, Bool.and_true, Bool.and_eq_true] at hv
    cases h1 : isNum b 0 7 <;> cases h2 : isNum c 0 6 <;>
    simp [w_parts_of_grade, exs, ex, ev, ↓ev_call, evs, evt, evo, evi, evand, evor, bd_some, bd_none, truD, cmpD, biD, seqOf, lstOf, eqD, view_int, view_bl, view_str, view_non, view_tup, view_lst, deq, deqs, dep_int, dep_bl, dep_str, dep_non, pur_int, pur_bl, pur_str, pur_non, pur_tup, purs_nil, purs_cons, asgT, asgTs, idxD, ixD, isiD, binD, iopD, fin_int, fin_bl, fin_str, fin_non, num_ok, hv, G_0, gradeB, h1, h2]
  | [], _ => simp [w_parts_of_grade, exs, ex, ev, ↓ev_call, evs, evt, evo, evi, evand, evor, bd_some, bd_none, truD, cmpD, biD, seqOf, lstOf, eqD, view_int, view_bl, view_str, view_non, view_tup, view_lst, deq, deqs, dep_int, dep_bl, dep_str, dep_non, pur_int, pur_bl, pur_str, pur_non, pur_tup, purs_nil, purs_cons, asgT, asgTs, idxD, ixD, isiD, binD, iopD, fin_int, fin_bl, fin_str, fin_non, gradeB]
  | [a], _ => simp [w_parts_of_grade, exs, ex, ev, ↓ev_call, evs, evt, evo, evi, evand, evor, bd_some, bd_none, truD, cmpD, biD, seqOf, lstOf, eqD, view_int, view_bl, view_str, view_non, view_tup, view_lst, deq, deqs, dep_int, dep_bl, dep_str, dep_non, pur_int, pur_bl, pur_str, pur_non, pur_tup, purs_nil, purs_cons, asgT, asgTs, idxD, ixD, isiD, binD, iopD, fin_int, fin_bl, fin_str, fin_non, gradeB]
  | [a, b], _ => simp [w_parts_of_grade, exs, ex, ev, ↓ev_call, evs, evt, evo, evi, evand, evor, bd_some, bd_none, truD, cmpD, biD, seqOf, lstOf, eqD, view_int, view_bl, view_str, view_non, view_tup, view_lst, deq, deqs, dep_int, dep_bl, dep_str, dep_non, pur_int, pur_bl, pur_str, pur_non, pur_tup, purs_nil, purs_cons, asgT, asgTs, idxD, ixD, isiD, binD, iopD, fin_int, fin_bl, fin_str, fin_non, gradeB]
  | a :: b :: c :: d :: r, _ =>
    have hl : ((r.length : Int) + 1 + 1 + 1 + 1 == 3) = false := by rw [beq_eq_false_iff_ne]; omega
    simp [w_parts_of_grade, exs, ex, ev, ↓ev_call, evs, evt, evo, evi, evand, evor, bd_some, bd_none, truD, cmpD, biD, seqOf, lstOf, eqD, view_int, view_bl, view_str, view_non, view_tup, view_lst, deq, deqs, dep_int, dep_bl, dep_str, dep_non, pur_int, pur_bl, pur_str, pur_non, pur_tup, purs_nil, purs_cons, asgT, asgTs, idxD, ixD, isiD, binD, iopD, fin_int, fin_bl, fin_str, fin_non, gradeB, hl]
theorem point_ok {n : Nat} {ds : List D} {s : S} (hv : okVs ds = true) : R (n + 1) 2 [.tup ds] s = some (.int (if pointB ds then 1 else 0), s) := by
  rw [R_eq (fn := w_parts_of_points) rfl rfl]
  match ds, hv with
  | [a, b], hv =>
    simp only [okVs, Bool.and_true, Bool.and_eq_true] at hv
    cases h1 : isNum b 0 480 <;>
    simp [w_parts_of_points, exs, ex, ev, ↓ev_call, evs, evt, evo, evi, evand, evor, bd_some, bd_none, truD, cmpD, biD, seqOf, lstOf, eqD, view_int, view_bl, view_str, view_non, view_tup, view_lst, deq, deqs, dep_int, dep_bl, dep_str, dep_non, pur_int, pur_bl, pur_str, pur_non, pur_tup, purs_nil, purs_cons, asgT, asgTs, idxD, ixD, isiD, binD, iopD, fin_int, fin_bl, fin_str, fin_non, num_ok, hv, G_1, pointB, h1]
  | [], _ => simp [w_parts_of_points, exs, ex, ev, ↓ev_call, evs, evt, evo, evi, evand, evor, bd_some, bd_none, truD, cmpD, biD, seqOf, lstOf, eqD, view_int, view_bl, view_str, view_non, view_tup, view_lst, deq, deqs, dep_int, dep_bl, dep_str, dep_non, pur_int, pur_bl, pur_str, pur_non, pur_tup, purs_nil, purs_cons, asgT, asgTs, idxD, ixD, isiD, binD, iopD, fin_int, fin_bl, fin_str, fin_non, pointB]
  | [a], _ => simp [w_parts_of_points, exs, ex, ev, ↓ev_call, evs, evt, evo, evi, evand, evor, bd_some, bd_none, truD, cmpD, biD, seqOf, lstOf, eqD, view_int, view_bl, view_str, view_non, view_tup, view_lst, deq, deqs, dep_int, dep_bl, dep_str, dep_non, pur_int, pur_bl, pur_str, pur_non, pur_tup, purs_nil, purs_cons, asgT, asgTs, idxD, ixD, isiD, binD, iopD, fin_int, fin_bl, fin_str, fin_non, pointB]
  | a :: b :: c :: r, _ =>
    have hl : ((r.length : Int) + 1 + 1 + 1 == 2) = false := by rw [beq_eq_false_iff_ne]; omega
    simp [w_parts_of_points, exs, ex, ev, ↓ev_call, evs, evt, evo, evi, evand, evor, bd_some, bd_none, truD, cmpD, biD, seqOf, lstOf, eqD, view_int, view_bl, view_str, view_non, view_tup, view_lst, deq, deqs, dep_int, dep_bl, dep_str, dep_non, pur_int, pur_bl, pur_str, pur_non, pur_tup, purs_nil, purs_cons, asgT, asgTs, idxD, ixD, isiD, binD, iopD, fin_int, fin_bl, fin_str, fin_non, pointB, hl]
end Kp

namespace Kp
open PySem
def manyOf (f : D → Int) (ps : List D) : Int := if ps.any (fun p => f p == 0) then 0 else 1 + (ps.map f).sum
def manyT (f : D → Int) (xs : List D) : Int := match xs with
  | [.tup ps] => manyOf f ps
  | _ => 0
def isAO (x : D) : Bool := decide (x = .str "and") || decide (x = .str "or")
def partsOf : Nat → D → Int
  | 0, _ => 0
  | L + 1, v => match v with
    | .tup (x :: xs) => if x = .str "grade" then (if gradeB (x :: xs) then 1 else 0) else if x = .str "points" then (if pointB (x :: xs) then 1 else 0) else if isAO x then manyT (partsOf L) xs else 0
    | _ => 0
theorem deq_s {x : D} {y : Str} : deq x (.str y) = decide (x = .str y) := by
  cases x with
  | str z => rw [Bool.eq_iff_iff]; simp [deq]
  | _ => simp [deq]
theorem min_z {a : Nat} : min a 0 = 0 := Nat.min_zero a
theorem okV_tup {ds : List D} (h : okV (.tup ds) = true) : ds.length ≤ 1000 ∧ okVs ds = true := by
  have h : (decide (ds.length ≤ 1000) && okVs ds) = true := h
  rw [Bool.and_eq_true, decide_eq_true_eq] at h
  exact h
theorem okVs_mem {ds : List D} (h : okVs ds = true) : ∀ d ∈ ds, okV d = true := fun d hd => by
  obtain ⟨i, e⟩ := List.getElem?_of_mem hd
  exact okVs_get h e
def bMany : Ss := .cons (.asg (.nm 4) (.call 4 (.cons (.var 3) (.cons (.bin .sub (.var 1) (.con (.int 1))) .nil)))) (
    .cons (.ifs (.cmp .eq (.var 4) (.con (.int 0))) (
      .cons (.ret (.con (.int 0))) .nil) .nil) (
    .cons (.aug 2 (.add false) (.var 4)) .nil))
theorem many_loop {n L : Nat} {v : D} {s : S} (ih : ∀ p, okV p = true → R n 4 [p, .int L] s = some (.int (partsOf L p), s)) : ∀ (ps : List D) (acc : Int) (a b : Option D), okVs ps = true →
    ∃ e a' b', forL (fun d env s => exs G (calls G Ps (n + 1)) bMany (List.set env 3 (some d)) s) [] ps [some v, some (.int (L + 1)), some (.int acc), a, b] s = if ps.any (fun p => partsOf L p == 0) then some (.rt (.int 0), e, s) else some (.nx, [some v, some (.int (L + 1)), some (.int (acc + (ps.map (partsOf L)).sum)), a', b'], s)
  | [], acc, a, b, _ => ⟨[], a, b, by simp [forL]⟩
  | p :: ps, acc, a, b, h => by
    have h : (okV p && okVs ps) = true := h
    rw [Bool.and_eq_true] at h
    by_cases hz : partsOf L p = 0
    · refine ⟨[some v, some (.int (L + 1)), some (.int acc), some p, some (.int 0)], a, b, ?_⟩
      simp [forL, bMany, exs, ex, ev, ↓ev_call, evs, evt, evo, evi, evand, evor, bd_some, bd_none, truD, cmpD, biD, seqOf, lstOf, eqD, view_int, view_bl, view_str, view_non, view_tup, view_lst, deq, deqs, dep_int, dep_bl, dep_str, dep_non, pur_int, pur_bl, pur_str, pur_non, pur_tup, purs_nil, purs_cons, asgT, asgTs, idxD, ixD, isiD, binD, iopD, fin_int, fin_bl, fin_str, fin_non, ih p h.1, hz]
    · obtain ⟨e, a', b', hr⟩ := many_loop ih ps (acc + partsOf L p) (some p) (some (.int (partsOf L p))) h.2
      refine ⟨e, a', b', ?_⟩
      have hz' : (partsOf L p == 0) = false := by rw [beq_eq_false_iff_ne]; exact hz
      rw [List.any_cons, hz', Bool.false_or, List.map_cons, List.sum_cons, ← Int.add_assoc]
      rw [← hr]
      simp [forL, bMany, exs, ex, ev, ↓ev_call, evs, evt, evo, evi, evand, evor, bd_some, bd_none, truD, cmpD, biD, seqOf, lstOf, eqD, view_int, view_bl, view_str, view_non, view_tup, view_lst, deq, deqs, dep_int, dep_bl, dep_str, dep_non, pur_int, pur_bl, pur_str, pur_non, pur_tup, purs_nil, purs_cons, asgT, asgTs, idxD, ixD, isiD, binD, iopD, fin_int, fin_bl, fin_str, fin_non, ih p h.1, hz', lkOk]
theorem many_ok {n L : Nat} {x : D} {xs : List D} {s : S} (ih : ∀ p, okV p = true → R n 4 [p, .int L] s = some (.int (partsOf L p), s)) (h : okVs (x :: xs) = true) :
    R (n + 1) 3 [.tup (x :: xs), .int (L + 1)] s = some (.int (manyT (partsOf L) xs), s) := by
  rw [R_eq (fn := w_parts_of_many) rfl rfl]
  match xs, h with
  | [], _ => simp [w_parts_of_many, exs, ex, ev, ↓ev_call, evs, evt, evo, evi, evand, evor, bd_some, bd_none, truD, cmpD, biD, seqOf, lstOf, eqD, view_int, view_bl, view_str, view_non, view_tup, view_lst, deq, deqs, dep_int, dep_bl, dep_str, dep_non, pur_int, pur_bl, pur_str, pur_non, pur_tup, purs_nil, purs_cons, asgT, asgTs, idxD, ixD, isiD, binD, iopD, fin_int, fin_bl, fin_str, fin_non, manyT]
  | [y], h =>
    have h : (okV x && (okV y && okVs [])) = true := h
    rw [Bool.and_eq_true, Bool.and_eq_true] at h
    cases y with
    | tup ps =>
      obtain ⟨e, a', b', hr⟩ := many_loop (v := .tup [x, .tup ps]) ih ps 1 none none (okV_tup h.2.1).2
      have hb : w_parts_of_many.body = .cons (.ifs (.or (.cons (.cmp .ne (.bi .len false (.cons (.var 0) .nil)) (.con (.int 2))) (.cons (.not (.isi (.idx (.var 0) (.con (.int 1))) .ttuple)) .nil))) (
          .cons (.ret (.con (.int 0))) .nil) .nil) (
        .cons (.asg (.nm 2) (.con (.int 1))) (
        .cons (.fr (.nm 3) (.seq (.idx (.var 0) (.con (.int 1)))) bMany) (
        .cons (.ret (.var 2)) .nil))) := rfl
      rw [hb]
      by_cases hz : ps.any (fun p => partsOf L p == 0) = true
      · rw [if_pos hz] at hr
        simp [w_parts_of_many, exs, ex, ev, ↓ev_call, evs, evt, evo, evi, evand, evor, bd_some, bd_none, truD, cmpD, biD, seqOf, lstOf, eqD, view_int, view_bl, view_str, view_non, view_tup, view_lst, deq, deqs, dep_int, dep_bl, dep_str, dep_non, pur_int, pur_bl, pur_str, pur_non, pur_tup, purs_nil, purs_cons, asgT, asgTs, idxD, ixD, isiD, binD, iopD, fin_int, fin_bl, fin_str, fin_non, srcD, hr, manyT, manyOf, hz]
      · rw [if_neg hz] at hr
        simp [w_parts_of_many, exs, ex, ev, ↓ev_call, evs, evt, evo, evi, evand, evor, bd_some, bd_none, truD, cmpD, biD, seqOf, lstOf, eqD, view_int, view_bl, view_str, view_non, view_tup, view_lst, deq, deqs, dep_int, dep_bl, dep_str, dep_non, pur_int, pur_bl, pur_str, pur_non, pur_tup, purs_nil, purs_cons, asgT, asgTs, idxD, ixD, isiD, binD, iopD, fin_int, fin_bl, fin_str, fin_non, srcD, hr, manyT, manyOf, hz]
    | ref _ => cases h.2.1
    | rol _ => cases h.2.1
    | _ => simp [w_parts_of_many, exs, ex, ev, ↓ev_call, evs, evt, evo, evi, evand, evor, bd_some, bd_none, truD, cmpD, biD, seqOf, lstOf, eqD, view_int, view_bl, view_str, view_non, view_tup, view_lst, deq, deqs, dep_int, dep_bl, dep_str, dep_non, pur_int, pur_bl, pur_str, pur_non, pur_tup, purs_nil, purs_cons, asgT, asgTs, idxD, ixD, isiD, binD, iopD, fin_int, fin_bl, fin_str, fin_non, manyT]
  | y :: z :: r, _ =>
    have hl : ((r.length : Int) + 1 + 1 + 1 == 2) = false := by rw [beq_eq_false_iff_ne]; omega
    simp [w_parts_of_many, exs, ex, ev, ↓ev_call, evs, evt, evo, evi, evand, evor, bd_some, bd_none, truD, cmpD, biD, seqOf, lstOf, eqD, view_int, view_bl, view_str, view_non, view_tup, view_lst, deq, deqs, dep_int, dep_bl, dep_str, dep_non, pur_int, pur_bl, pur_str, pur_non, pur_tup, purs_nil, purs_cons, asgT, asgTs, idxD, ixD, isiD, binD, iopD, fin_int, fin_bl, fin_str, fin_non, hl, manyT]
theorem parts_ok : ∀ (L n : Nat) (v : D) (s : S), okV v = true → 2 * L + 2 ≤ n → R n 4 [v, .int L] s = some (.int (partsOf L v), s)
  | 0, n, v, s, hv, hn => by
    rw [R_eq (fn := w_parts_of) rfl rfl]
    simp [w_parts_of, exs, ex, ev, ↓ev_call, evs, evt, evo, evi, evand, evor, bd_some, bd_none, truD, cmpD, biD, seqOf, lstOf, eqD, view_int, view_bl, view_str, view_non, view_tup, view_lst, deq, deqs, dep_int, dep_bl, dep_str, dep_non, pur_int, pur_bl, pur_str, pur_non, pur_tup, purs_nil, purs_cons, asgT, asgTs, idxD, ixD, isiD, binD, iopD, fin_int, fin_bl, fin_str, fin_non, partsOf]
  | L + 1, n, v, s, hv, hn => by
    obtain ⟨n, rfl⟩ : ∃ m, n = m + 2 := ⟨n - 2, by omega⟩
    have ih : ∀ p, okV p = true → R n 4 [p, .int L] s = some (.int (partsOf L p), s) := fun p hp => parts_ok L n p s hp (by omega)
    rw [R_eq (fn := w_parts_of) rfl rfl]
    have hL : (((L : Int) + 1) == 0) = false := by rw [beq_eq_false_iff_ne]; omega
    cases v with
    | tup ds =>
      obtain ⟨_, hv⟩ := okV_tup hv
      cases ds with
      | nil => simp [w_parts_of, exs, ex, ev, ↓ev_call, evs, evt, evo, evi, evand, evor, bd_some, bd_none, truD, cmpD, biD, seqOf, lstOf, eqD, view_int, view_bl, view_str, view_non, view_tup, view_lst, deq, deqs, dep_int, dep_bl, dep_str, dep_non, pur_int, pur_bl, pur_str, pur_non, pur_tup, purs_nil, purs_cons, asgT, asgTs, idxD, ixD, isiD, binD, iopD, fin_int, fin_bl, fin_str, fin_non, partsOf, hL]
      | cons x xs =>
        have hx : (okV x && okVs xs) = true := hv
        rw [Bool.and_eq_true] at hx
        have px := pur_ok x hx.1
        by_cases e1 : x = .str "grade"
        · subst e1
          have g := grade_ok (n := n) (s := s) hv
          simp [w_parts_of, exs, ex, ev, ↓ev_call, evs, evt, evo, evi, evand, evor, bd_some, bd_none, truD, cmpD, biD, seqOf, lstOf, eqD, view_int, view_bl, view_str, view_non, view_tup, view_lst, deq, deqs, dep_int, dep_bl, dep_str, dep_non, pur_int, pur_bl, pur_str, pur_non, pur_tup, purs_nil, purs_cons, asgT, asgTs, idxD, ixD, isiD, binD, iopD, fin_int, fin_bl, fin_str, fin_non, partsOf, hL, g]
        · by_cases e2 : x = .str "points"
          · subst e2
            have g := point_ok (n := n) (s := s) hv
            simp [w_parts_of, exs, ex, ev, ↓ev_call, evs, evt, evo, evi, evand, evor, bd_some, bd_none, truD, cmpD, biD, seqOf, lstOf, eqD, view_int, view_bl, view_str, view_non, view_tup, view_lst, deq, deqs, dep_int, dep_bl, dep_str, dep_non, pur_int, pur_bl, pur_str, pur_non, pur_tup, purs_nil, purs_cons, asgT, asgTs, idxD, ixD, isiD, binD, iopD, fin_int, fin_bl, fin_str, fin_non, partsOf, hL, s_pg, q_pg, g]
          · by_cases e3 : x = .str "and"
            · subst e3
              have g := many_ok (s := s) ih hv
              simp [w_parts_of, exs, ex, ev, ↓ev_call, evs, evt, evo, evi, evand, evor, bd_some, bd_none, truD, cmpD, biD, seqOf, lstOf, eqD, view_int, view_bl, view_str, view_non, view_tup, view_lst, deq, deqs, dep_int, dep_bl, dep_str, dep_non, pur_int, pur_bl, pur_str, pur_non, pur_tup, purs_nil, purs_cons, asgT, asgTs, idxD, ixD, isiD, binD, iopD, fin_int, fin_bl, fin_str, fin_non, partsOf, hL, s_ag, s_ap, q_ag, q_ap, g, isAO]
            · by_cases e4 : x = .str "or"
              · subst e4
                have g := many_ok (s := s) ih hv
                simp [w_parts_of, exs, ex, ev, ↓ev_call, evs, evt, evo, evi, evand, evor, bd_some, bd_none, truD, cmpD, biD, seqOf, lstOf, eqD, view_int, view_bl, view_str, view_non, view_tup, view_lst, deq, deqs, dep_int, dep_bl, dep_str, dep_non, pur_int, pur_bl, pur_str, pur_non, pur_tup, purs_nil, purs_cons, asgT, asgTs, idxD, ixD, isiD, binD, iopD, fin_int, fin_bl, fin_str, fin_non, partsOf, hL, s_og, s_op, s_oa, q_og, q_op, q_oa, g, isAO]
              · simp [w_parts_of, exs, ex, ev, ↓ev_call, evs, evt, evo, evi, evand, evor, bd_some, bd_none, truD, cmpD, biD, seqOf, lstOf, eqD, view_int, view_bl, view_str, view_non, view_tup, view_lst, deq, deqs, dep_int, dep_bl, dep_str, dep_non, pur_int, pur_bl, pur_str, pur_non, pur_tup, purs_nil, purs_cons, asgT, asgTs, idxD, ixD, isiD, binD, iopD, fin_int, fin_bl, fin_str, fin_non, partsOf, hL, px, view_pur px, deq_s, min_z, e1, e2, e3, e4, isAO, D.str.injEq]
    | ref _ => cases hv
    | rol _ => cases hv
    | _ => simp [w_parts_of, exs, ex, ev, ↓ev_call, evs, evt, evo, evi, evand, evor, bd_some, bd_none, truD, cmpD, biD, seqOf, lstOf, eqD, view_int, view_bl, view_str, view_non, view_tup, view_lst, deq, deqs, dep_int, dep_bl, dep_str, dep_non, pur_int, pur_bl, pur_str, pur_non, pur_tup, purs_nil, purs_cons, asgT, asgTs, idxD, ixD, isiD, binD, iopD, fin_int, fin_bl, fin_str, fin_non, partsOf, hL]
end Kp

namespace Kp
open PySem
theorem compL_map {step : D → S → Option (Option D × S)} {lk : Lk} {s : S} {f : D → D} (hl : lkOk lk s = true) : ∀ {ps : List D}, (∀ p ∈ ps, step p s = some (some (f p), s)) → compL step lk ps s = some (ps.map f, s)
  | [], _ => rfl
  | p :: ps, h => by
    have e1 := h p (by simp)
    have e2 := compL_map (step := step) (f := f) hl (ps := ps) fun q hq => h q (by simp [hq])
    unfold compL
    rw [e1, bd_some, if_pos hl, e2]
    rfl
theorem ints_map : ∀ l : List Int, intsOf (l.map D.int) = some l
  | [] => rfl
  | i :: l => by
    show (intsOf (l.map D.int)).map (i :: ·) = _
    rw [ints_map l]
    rfl
def comb (zs : List (Int × Int)) : Int × Int := if zs.any (fun z => z.1 == 0 && z.2 == 0) then (0, 0) else (1 + (zs.map (·.1)).sum, 1 + maxI (0 :: zs.map (·.2)))
def combT (f : D → Int × Int) (xs : List D) : Int × Int := match xs with
  | [.tup ps] => comb (ps.map f)
  | _ => (0, 0)
def sizeOf2 : Nat → D → Int × Int
  | 0, _ => (0, 0)
  | L + 1, v => match v with
    | .tup (x :: xs) => if x = .str "grade" then (if gradeB (x :: xs) then (1, 1) else (0, 0)) else if x = .str "points" then (if pointB (x :: xs) then (1, 1) else (0, 0)) else if isAO x then combT (sizeOf2 L) xs else (0, 0)
    | _ => (0, 0)
def pD (z : Int × Int) : D := .tup [.int z.1, .int z.2]
theorem purs_pD : ∀ zs : List (Int × Int), purs (zs.map pD) = true
  | [] => rfl
  | z :: zs => by
    show (true && purs (zs.map pD)) = true
    rw [purs_pD zs]
    rfl
theorem newL_ok {ds : List D} {s : S} (h : ds.length ≤ 2000) : newL false ds s = some (.lst ds, s) := by
  unfold newL
  rw [if_pos (Nat.le_trans h (by decide))]
  rfl
theorem any_pD (zs : List (Int × Int)) : (zs.map pD).any (fun z => deq z (.tup [.int 0, .int 0])) = zs.any (fun z => z.1 == 0 && z.2 == 0) := by
  rw [List.any_map]
  refine congrArg (fun f => zs.any f) (funext fun z => ?_)
  show (z.1 == 0 && (z.2 == 0 && true)) = _
  rw [Bool.and_true]
/-- one number of each pair -/
theorem lc_fst {n : Nat} {a b c d e : Option D} {zs : List (Int × Int)} {s : S} (hl : zs.length ≤ 1000) : ev G (calls G Ps n) (.lc false [4] (.nm 4) (.seq (.var 2)) .nil (.idx (.var 4) (.con (.int 0)))) [a, b, some (.lst (zs.map pD)), d, e] s = some (.lst ((zs.map (·.1)).map D.int), s) := by
  have h := compL_map (step := fun d' s' => bd (evt G (calls G Ps n) .nil [a, b, some (.lst (zs.map pD)), d, some d'] s') fun b' s2 => if b' then bd (ev G (calls G Ps n) (.idx (.var 4) (.con (.int 0))) [a, b, some (.lst (zs.map pD)), d, some d'] s2) fun x s3 => some (some x, s3) else some (none, s2)) (lk := []) (s := s) (f := fun p => match p with | .tup (x :: _) => x | _ => .non) rfl (ps := zs.map pD) fun p hp => by
    obtain ⟨z, _, rfl⟩ := List.mem_map.mp hp
    simp [exs, ex, ev, ↓ev_call, evs, evt, evo, evi, evand, evor, bd_some, bd_none, truD, cmpD, biD, seqOf, lstOf, eqD, view_int, view_bl, view_str, view_non, view_tup, view_lst, deq, deqs, dep_int, dep_bl, dep_str, dep_non, pur_int, pur_bl, pur_str, pur_non, pur_tup, purs_nil, purs_cons, asgT, asgTs, idxD, ixD, isiD, binD, iopD, fin_int, fin_bl, fin_str, fin_non, pD]
  rw [List.map_map] at h
  have e1 : (List.map ((fun p => match p with | .tup (x :: _) => x | _ => .non : D → D) ∘ pD) zs) = (zs.map (·.1)).map D.int := by
    rw [List.map_map]
    rfl
  rw [e1] at h
  show (bd (bd (some (D.lst (zs.map pD), s)) fun x s1 => (srcD s1 x).map fun p => ((p.2.1, p.2.2), s1)) fun p s1 => bd (compL _ p.2 p.1 s1) (newL false)) = _
  show bd (compL _ [] (zs.map pD) s) (newL false) = _
  refine (congrArg (fun r => bd r (newL false)) h).trans ?_
  exact newL_ok (by simpa using Nat.le_trans hl (by decide))
theorem lc_snd {n : Nat} {a b c d e : Option D} {zs : List (Int × Int)} {s : S} (hl : zs.length ≤ 1000) : ev G (calls G Ps n) (.lc false [4] (.nm 4) (.seq (.var 2)) .nil (.idx (.var 4) (.con (.int 1)))) [a, b, some (.lst (zs.map pD)), d, e] s = some (.lst ((zs.map (·.2)).map D.int), s) := by
  have h := compL_map (step := fun d' s' => bd (evt G (calls G Ps n) .nil [a, b, some (.lst (zs.map pD)), d, some d'] s') fun b' s2 => if b' then bd (ev G (calls G Ps n) (.idx (.var 4) (.con (.int 1))) [a, b, some (.lst (zs.map pD)), d, some d'] s2) fun x s3 => some (some x, s3) else some (none, s2)) (lk := []) (s := s) (f := fun p => match p with | .tup (_ :: x :: _) => x | _ => .non) rfl (ps := zs.map pD) fun p hp => by
    obtain ⟨z, _, rfl⟩ := List.mem_map.mp hp
    simp [exs, ex, ev, ↓ev_call, evs, evt, evo, evi, evand, evor, bd_some, bd_none, truD, cmpD, biD, seqOf, lstOf, eqD, view_int, view_bl, view_str, view_non, view_tup, view_lst, deq, deqs, dep_int, dep_bl, dep_str, dep_non, pur_int, pur_bl, pur_str, pur_non, pur_tup, purs_nil, purs_cons, asgT, asgTs, idxD, ixD, isiD, binD, iopD, fin_int, fin_bl, fin_str, fin_non, pD]
  rw [List.map_map] at h
  have e1 : (List.map ((fun p => match p with | .tup (_ :: x :: _) => x | _ => .non : D → D) ∘ pD) zs) = (zs.map (·.2)).map D.int := by
    rw [List.map_map]
    rfl
  rw [e1] at h
  show bd (compL _ [] (zs.map pD) s) (newL false) = _
  refine (congrArg (fun r => bd r (newL false)) h).trans ?_
  exact newL_ok (by simpa using Nat.le_trans hl (by decide))
theorem lc_size {n L : Nat} {x : D} {b : Option D} {ps : List D} {s : S} (ih : ∀ p, okV p = true → R n 11 [p, .int L] s = some (pD (sizeOf2 L p), s)) (hp : okV (.tup ps) = true) :
    ev G (calls G Ps (n + 1)) (.lc false [3] (.nm 3) (.seq (.idx (.var 0) (.con (.int 1)))) .nil (.call 11 (.cons (.var 3) (.cons (.bin .sub (.var 1) (.con (.int 1))) .nil)))) [some (.tup [x, .tup ps]), some (.int (L + 1)), none, none, none] s = some (.lst ((ps.map (sizeOf2 L)).map pD), s) := by
  obtain ⟨hl, hp⟩ := okV_tup hp
  have h := compL_map (step := fun d' s' => bd (evt G (calls G Ps (n + 1)) .nil [some (.tup [x, .tup ps]), some (.int (L + 1)), none, some d', none] s') fun b' s2 => if b' then bd (ev G (calls G Ps (n + 1)) (.call 11 (.cons (.var 3) (.cons (.bin .sub (.var 1) (.con (.int 1))) .nil))) [some (.tup [x, .tup ps]), some (.int (L + 1)), none, some d', none] s2) fun x s3 => some (some x, s3) else some (none, s2)) (lk := []) (s := s) (f := fun p => pD (sizeOf2 L p)) rfl (ps := ps) fun p hq => by
    simp [exs, ex, ev, ↓ev_call, evs, evt, evo, evi, evand, evor, bd_some, bd_none, truD, cmpD, biD, seqOf, lstOf, eqD, view_int, view_bl, view_str, view_non, view_tup, view_lst, deq, deqs, dep_int, dep_bl, dep_str, dep_non, pur_int, pur_bl, pur_str, pur_non, pur_tup, purs_nil, purs_cons, asgT, asgTs, idxD, ixD, isiD, binD, iopD, fin_int, fin_bl, fin_str, fin_non, ih p (okVs_mem hp p hq)]
  rw [List.map_map]
  show bd (compL _ [] ps s) (newL false) = _
  refine (congrArg (fun r => bd r (newL false)) h).trans ?_
  exact newL_ok (by simpa using Nat.le_trans hl (by decide))
end Kp

namespace Kp
open PySem
theorem deq_and {x : D} : (deq (.str "and") x || deq (.str "or") x) = isAO x := by
  cases x with
  | str z =>
    have e : ∀ y : Str, (y == z) = decide (D.str z = .str y) := fun y => by
      rw [Bool.eq_iff_iff, beq_iff_eq, decide_eq_true_eq]
      exact ⟨fun h => by rw [h], fun h => by injection h with h; exact h.symm⟩
    show ((("and" : Str) == z) || (("or" : Str) == z)) = (decide (D.str z = .str "and") || decide (D.str z = .str "or"))
    rw [e, e]
  | _ => simp [deq, isAO]
theorem max_ok {l : List Int} {s : S} : biD .maxl false [.lst ((0 :: l).map D.int)] s = some (.int (maxI (0 :: l)), s) := by
  show ((lstOf s (.lst ((0 :: l).map D.int))).bind intsOf).bind (fun ns => if ns = [] then none else some (D.int (maxI ns), s)) = _
  show (intsOf ((0 :: l).map D.int)).bind (fun ns => if ns = [] then none else some (D.int (maxI ns), s)) = _
  rw [ints_map]
  rfl
theorem sum_ok {l : List Int} {s : S} : biD .sum false [.lst (l.map D.int)] s = some (.int l.sum, s) := by
  show ((lstOf s (.lst (l.map D.int))).bind intsOf).map (fun ns => (D.int ns.sum, s)) = _
  show (intsOf (l.map D.int)).map (fun ns => (D.int ns.sum, s)) = _
  rw [ints_map]
  rfl
def tailS : Ss := (
  .cons (.ifs (.cmp .isin (.tup (.cons (.con (.int 0)) (.cons (.con (.int 0)) .nil))) (.var 2)) (
    .cons (.ret (.tup (.cons (.con (.int 0)) (.cons (.con (.int 0)) .nil)))) .nil) .nil) (
  .cons (.ret (.tup (.cons (.bin (.add false) (.con (.int 1)) (.bi .sum false (.cons (.lc false [4] (.nm 4) (.seq (.var 2)) .nil (.idx (.var 4) (.con (.int 0)))) .nil))) (.cons (.bin (.add false) (.con (.int 1)) (.bi .maxl false (.cons (.bin (.add false) (.lst false (.cons (.con (.int 0)) .nil)) (.lc false [4] (.nm 4) (.seq (.var 2)) .nil (.idx (.var 4) (.con (.int 1))))) .nil))) .nil)))) .nil))
theorem tail_ok {n : Nat} {a b : Option D} {zs : List (Int × Int)} {s : S} (hl : zs.length ≤ 1000) : exs G (calls G Ps n) tailS [a, b, some (.lst (zs.map pD)), none, none] s = some (.rt (pD (comb zs)), [a, b, some (.lst (zs.map pD)), none, none], s) := by
  have h1 := fun s => lc_fst (n := n) (a := a) (b := b) (c := none) (d := none) (e := none) (s := s) hl
  have h2 := fun s => lc_snd (n := n) (a := a) (b := b) (c := none) (d := none) (e := none) (s := s) hl
  have h3 : ∀ s, inD s (.tup [.int 0, .int 0]) (.lst (zs.map pD)) = some (zs.any (fun z => z.1 == 0 && z.2 == 0)) := fun s => by
    show (if pur (.tup [.int 0, .int 0]) && purs (zs.map pD) && decide (dep (.tup [.int 0, .int 0]) ≤ 60) then some ((zs.map pD).any fun z => deq z (.tup [.int 0, .int 0])) else none) = _
    rw [purs_pD, any_pD]
    rfl
  have h4 : ∀ s, newL false (D.int 0 :: (zs.map (·.2)).map D.int) s = some (.lst ((0 :: zs.map (·.2)).map D.int), s) := fun s => newL_ok (by simp; omega)
  have h5 : ∀ s, newL false [D.int 0] s = some (.lst [.int 0], s) := fun s => newL_ok (by simp)
  have t1 : ∀ (x y : D) s, newT [x, y] s = some (.tup [x, y], s) := fun x y s => rfl
  have m1 : ∀ (l : List Int) s, biD .maxl false [.lst (D.int 0 :: l.map D.int)] s = some (.int (maxI (0 :: l)), s) := fun l s => max_ok
  have m2 : ∀ (l : List Int) s, biD .sum false [.lst (l.map D.int)] s = some (.int l.sum, s) := fun l s => sum_ok
  by_cases hz : zs.any (fun z => z.1 == 0 && z.2 == 0) = true
  · rw [hz] at h3
    simp [tailS, exs, ex, ev, ↓ev_call, evs, evt, evo, evi, evand, evor, bd_some, bd_none, truD, cmpD, biD, seqOf, lstOf, eqD, view_int, view_bl, view_str, view_non, view_tup, view_lst, deq, deqs, dep_int, dep_bl, dep_str, dep_non, pur_int, pur_bl, pur_str, pur_non, pur_tup, purs_nil, purs_cons, asgT, asgTs, idxD, ixD, isiD, binD, iopD, fin_int, fin_bl, fin_str, fin_non, newT, lim, h3, comb, hz, pD]
  · have hz' : zs.any (fun z => z.1 == 0 && z.2 == 0) = false := Bool.eq_false_iff.mpr hz
    rw [hz'] at h3
    simp [-List.map_map, tailS, exs, ex, ev, ↓ev_call, evs, evt, evo, evi, evand, evor, bd_some, bd_none, truD, cmpD, biD, seqOf, lstOf, eqD, view_int, view_bl, view_str, view_non, view_tup, view_lst, deq, deqs, dep_int, dep_bl, dep_str, dep_non, pur_int, pur_bl, pur_str, pur_non, pur_tup, purs_nil, purs_cons, asgT, asgTs, idxD, ixD, isiD, binD, iopD, fin_int, fin_bl, fin_str, fin_non, t1, h3, ↓h1, ↓h2, h4, h5, ↓m1, ↓m2, comb, hz', pD]
end Kp

namespace Kp
open PySem
def midS (own : E) : Ss := .cons (.ifs own (.cons (.ret (.tup (.cons (.con (.int 0)) (.cons (.con (.int 0)) .nil)))) .nil) .nil) (
  .cons (.asgLc 2 false [3] (.nm 3) (.seq (.idx (.var 0) (.con (.int 1)))) .nil (.call 11 (.cons (.var 3) (.cons (.bin .sub (.var 1) (.con (.int 1))) .nil)))) tailS)
theorem in_and {s : S} {x : D} (h : pur x = true) (hd : dep x ≤ 60) : inD s x (.tup [.str "and", .str "or"]) = some (isAO x) := by
  show (if pur (view s x) && purs [D.str "and", D.str "or"] && decide (dep (view s x) ≤ 60) then some ([D.str "and", D.str "or"].any fun z => deq z (view s x)) else none) = _
  rw [view_pur h, h]
  have e : [D.str "and", D.str "or"].any (fun z => deq z x) = isAO x := by
    show (deq (.str "and") x || (deq (.str "or") x || false)) = _
    rw [Bool.or_false, deq_and]
  rw [e, decide_eq_true hd]
  rfl
theorem isAO_s {z : Str} (h : isAO (.str z) = true) : z = "and" ∨ z = "or" := by
  unfold isAO at h
  rw [Bool.or_eq_true, decide_eq_true_eq, decide_eq_true_eq] at h
  rcases h with h | h
  · injection h with h; exact .inl h
  · injection h with h; exact .inr h
theorem size_ok : ∀ (L n : Nat) (v : D) (s : S), okV v = true → L + 1 ≤ n → R n 11 [v, .int L] s = some (pD (sizeOf2 L v), s)
  | 0, n, v, s, hv, hn => by
    rw [R_eq (fn := w__law_size) rfl rfl]
    have t1 : ∀ (x y : D) s, newT [x, y] s = some (.tup [x, y], s) := fun x y s => rfl
    have f1 : fin false s (.tup [.int 0, .int 0]) s = some (.tup [.int 0, .int 0], s) := fin_same rfl
    simp [w__law_size, exs, ex, ev, ↓ev_call, evs, evt, evo, evi, evand, evor, bd_some, bd_none, truD, cmpD, biD, seqOf, lstOf, eqD, view_int, view_bl, view_str, view_non, view_tup, view_lst, deq, deqs, dep_int, dep_bl, dep_str, dep_non, pur_int, pur_bl, pur_str, pur_non, pur_tup, purs_nil, purs_cons, asgT, asgTs, idxD, ixD, isiD, binD, iopD, fin_int, fin_bl, fin_str, fin_non, sizeOf2, t1, pD, f1]
  | L + 1, n, v, s, hv, hn => by
    obtain ⟨n, rfl⟩ : ∃ m, n = m + 1 := ⟨n - 1, by omega⟩
    have ih : ∀ p, okV p = true → ∀ s, R n 11 [p, .int L] s = some (pD (sizeOf2 L p), s) := fun p hp s => size_ok L n p s hp (by omega)
    rw [R_eq (fn := w__law_size) rfl rfl]
    have t0 : ∀ s, newT [] s = some (.tup [], s) := fun s => rfl
    have t1 : ∀ (x y : D) s, newT [x, y] s = some (.tup [x, y], s) := fun x y s => rfl
    have f1 : fin false s (.tup [.int 0, .int 0]) s = some (.tup [.int 0, .int 0], s) := fin_same rfl
    have f2 : ∀ z : Int × Int, fin false s (pD z) s = some (pD z, s) := fun z => fin_same rfl
    have hL : (((L : Int) + 1) == 0) = false := by rw [beq_eq_false_iff_ne]; omega
    cases v with
    | tup ds =>
      have hv0 := hv
      obtain ⟨_, hv⟩ := okV_tup hv
      have hp := purs_ok ds hv
      cases ds with
      | nil =>
        have hd0 : dep (.tup []) = 1 := rfl
        simp [w__law_size, exs, ex, ev, ↓ev_call, evs, evt, evo, evi, evand, evor, bd_some, bd_none, truD, cmpD, biD, seqOf, lstOf, eqD, view_int, view_bl, view_str, view_non, view_tup, view_lst, deq, deqs, dep_int, dep_bl, dep_str, dep_non, pur_int, pur_bl, pur_str, pur_non, pur_tup, purs_nil, purs_cons, asgT, asgTs, idxD, ixD, isiD, binD, iopD, fin_int, fin_bl, fin_str, fin_non, sizeOf2, hL, t0, t1, f1, pD, hd0]
      | cons x xs =>
        have hx : (okV x && okVs xs) = true := hv
        rw [Bool.and_eq_true] at hx
        have hpp : (pur x && purs xs) = true := hp
        rw [Bool.and_eq_true] at hpp
        have hdep : dep (.tup []) = 1 := rfl
        have hmin : ∀ a, min a 1 ≤ 64 := fun a => Nat.le_trans (Nat.min_le_right _ _) (by decide)
        cases x with
        | str z =>
          by_cases e1 : z = "grade"
          · subst e1
            match xs, hx with
            | [a, b], hx =>
              have h2 := hx.2
              simp only [okVs, Bool.and_true, Bool.and_eq_true] at h2
              cases k1 : isNum a 0 7 <;> cases k2 : isNum b 0 6 <;>
              simp [w__law_size, exs, ex, ev, ↓ev_call, evs, evt, evo, evi, evand, evor, bd_some, bd_none, truD, cmpD, biD, seqOf, lstOf, eqD, view_int, view_bl, view_str, view_non, view_tup, view_lst, deq, deqs, dep_int, dep_bl, dep_str, dep_non, pur_int, pur_bl, pur_str, pur_non, pur_tup, purs_nil, purs_cons, asgT, asgTs, idxD, ixD, isiD, binD, iopD, fin_int, fin_bl, fin_str, fin_non, sizeOf2, hL, t0, t1, f1, pD, hpp, hdep, hmin, num2_ok, h2, gradeB, k1, k2, fin_same]
            | [], _ => simp [w__law_size, exs, ex, ev, ↓ev_call, evs, evt, evo, evi, evand, evor, bd_some, bd_none, truD, cmpD, biD, seqOf, lstOf, eqD, view_int, view_bl, view_str, view_non, view_tup, view_lst, deq, deqs, dep_int, dep_bl, dep_str, dep_non, pur_int, pur_bl, pur_str, pur_non, pur_tup, purs_nil, purs_cons, asgT, asgTs, idxD, ixD, isiD, binD, iopD, fin_int, fin_bl, fin_str, fin_non, sizeOf2, hL, t0, t1, f1, pD, hpp, hdep, hmin, gradeB]
            | [a], _ => simp [w__law_size, exs, ex, ev, ↓ev_call, evs, evt, evo, evi, evand, evor, bd_some, bd_none, truD, cmpD, biD, seqOf, lstOf, eqD, view_int, view_bl, view_str, view_non, view_tup, view_lst, deq, deqs, dep_int, dep_bl, dep_str, dep_non, pur_int, pur_bl, pur_str, pur_non, pur_tup, purs_nil, purs_cons, asgT, asgTs, idxD, ixD, isiD, binD, iopD, fin_int, fin_bl, fin_str, fin_non, sizeOf2, hL, t0, t1, f1, pD, hpp, hdep, hmin, gradeB]
            | a :: b :: c :: r, _ =>
              have hl : ((r.length : Int) + 1 + 1 + 1 + 1 == 3) = false := by rw [beq_eq_false_iff_ne]; omega
              simp [w__law_size, exs, ex, ev, ↓ev_call, evs, evt, evo, evi, evand, evor, bd_some, bd_none, truD, cmpD, biD, seqOf, lstOf, eqD, view_int, view_bl, view_str, view_non, view_tup, view_lst, deq, deqs, dep_int, dep_bl, dep_str, dep_non, pur_int, pur_bl, pur_str, pur_non, pur_tup, purs_nil, purs_cons, asgT, asgTs, idxD, ixD, isiD, binD, iopD, fin_int, fin_bl, fin_str, fin_non, sizeOf2, hL, t0, t1, f1, pD, hpp, hdep, hmin, gradeB, hl]
          · have b1 : (z == ("grade" : Str)) = false := beq_eq_false_iff_ne.mpr e1
            by_cases e2 : z = "points"
            · subst e2
              match xs, hx with
              | [a], hx =>
                have h2 := hx.2
                simp only [okVs, Bool.and_true, Bool.and_eq_true] at h2
                cases k1 : isNum a 0 480 <;>
                simp [w__law_size, exs, ex, ev, ↓ev_call, evs, evt, evo, evi, evand, evor, bd_some, bd_none, truD, cmpD, biD, seqOf, lstOf, eqD, view_int, view_bl, view_str, view_non, view_tup, view_lst, deq, deqs, dep_int, dep_bl, dep_str, dep_non, pur_int, pur_bl, pur_str, pur_non, pur_tup, purs_nil, purs_cons, asgT, asgTs, idxD, ixD, isiD, binD, iopD, fin_int, fin_bl, fin_str, fin_non, sizeOf2, hL, t0, t1, f1, pD, hpp, hdep, hmin, num2_ok, h2, pointB, k1, fin_same, s_pg, q_pg]
              | [], _ => simp [w__law_size, exs, ex, ev, ↓ev_call, evs, evt, evo, evi, evand, evor, bd_some, bd_none, truD, cmpD, biD, seqOf, lstOf, eqD, view_int, view_bl, view_str, view_non, view_tup, view_lst, deq, deqs, dep_int, dep_bl, dep_str, dep_non, pur_int, pur_bl, pur_str, pur_non, pur_tup, purs_nil, purs_cons, asgT, asgTs, idxD, ixD, isiD, binD, iopD, fin_int, fin_bl, fin_str, fin_non, sizeOf2, hL, t0, t1, f1, pD, hpp, hdep, hmin, pointB, s_pg, q_pg]
              | a :: b :: r, _ =>
                have hl : ((r.length : Int) + 1 + 1 + 1 == 2) = false := by rw [beq_eq_false_iff_ne]; omega
                simp [w__law_size, exs, ex, ev, ↓ev_call, evs, evt, evo, evi, evand, evor, bd_some, bd_none, truD, cmpD, biD, seqOf, lstOf, eqD, view_int, view_bl, view_str, view_non, view_tup, view_lst, deq, deqs, dep_int, dep_bl, dep_str, dep_non, pur_int, pur_bl, pur_str, pur_non, pur_tup, purs_nil, purs_cons, asgT, asgTs, idxD, ixD, isiD, binD, iopD, fin_int, fin_bl, fin_str, fin_non, sizeOf2, hL, t0, t1, f1, pD, hpp, hdep, hmin, pointB, hl, s_pg, q_pg]
            · have b2 : (z == ("points" : Str)) = false := beq_eq_false_iff_ne.mpr e2
              have a1 : ∀ s, inD s (.str z) (.tup [.str "and", .str "or"]) = some (isAO (.str z)) := fun s => in_and rfl (Nat.zero_le _)
              by_cases e3 : isAO (.str z) = true
              · have hb : w__law_size.body = .cons (.ifs (.or (.cons (.cmp .eq (.var 1) (.con (.int 0))) (.cons (.not (.isi (.var 0) .ttuple)) (.cons (.cmp .eq (.var 0) (.tup .nil)) (.cons (.not (.isi (.idx (.var 0) (.con (.int 0))) .tstr)) .nil))))) (
                      .cons (.ret (.tup (.cons (.con (.int 0)) (.cons (.con (.int 0)) .nil)))) .nil) .nil) (
                    .cons (.ifs (.cmp .eq (.idx (.var 0) (.con (.int 0))) (.con (.str "grade"))) (
                      .cons (.ret (.ite (.and (.cons (.cmp .eq (.bi .len false (.cons (.var 0) .nil)) (.con (.int 3))) (.cons (.call 10 (.cons (.idx (.var 0) (.con (.int 1))) (.cons (.con (.int 0)) (.cons (.con (.int 7)) .nil)))) (.cons (.call 10 (.cons (.idx (.var 0) (.con (.int 2))) (.cons (.con (.int 0)) (.cons (.con (.int 6)) .nil)))) .nil)))) (.tup (.cons (.con (.int 1)) (.cons (.con (.int 1)) .nil))) (.tup (.cons (.con (.int 0)) (.cons (.con (.int 0)) .nil))))) .nil) .nil) (
                    .cons (.ifs (.cmp .eq (.idx (.var 0) (.con (.int 0))) (.con (.str "points"))) (
                      .cons (.ret (.ite (.and (.cons (.cmp .eq (.bi .len false (.cons (.var 0) .nil)) (.con (.int 2))) (.cons (.call 10 (.cons (.idx (.var 0) (.con (.int 1))) (.cons (.con (.int 0)) (.cons (.con (.int 480)) .nil)))) .nil))) (.tup (.cons (.con (.int 1)) (.cons (.con (.int 1)) .nil))) (.tup (.cons (.con (.int 0)) (.cons (.con (.int 0)) .nil))))) .nil) .nil)
                    (midS (.or (.cons (.cmp .notin (.idx (.var 0) (.con (.int 0))) (.tup (.cons (.con (.str "and")) (.cons (.con (.str "or")) .nil)))) (.cons (.cmp .ne (.bi .len false (.cons (.var 0) .nil)) (.con (.int 2))) (.cons (.not (.isi (.idx (.var 0) (.con (.int 1))) .ttuple)) .nil))))))) := rfl
                rw [hb]
                have c1 : ¬ z = ("grade" : Str) := e1
                have c2 : ¬ z = ("points" : Str) := e2
                match xs, hx with
                | [], _ => simp [w__law_size, midS, exs, ex, ev, ↓ev_call, evs, evt, evo, evi, evand, evor, bd_some, bd_none, truD, cmpD, biD, seqOf, lstOf, eqD, view_int, view_bl, view_str, view_non, view_tup, view_lst, deq, deqs, dep_int, dep_bl, dep_str, dep_non, pur_int, pur_bl, pur_str, pur_non, pur_tup, purs_nil, purs_cons, asgT, asgTs, idxD, ixD, isiD, binD, iopD, fin_int, fin_bl, fin_str, fin_non, sizeOf2, hL, t0, t1, f1, pD, hpp, hdep, hmin, b1, b2, c1, c2, a1, e3, combT]
                | [y], hx =>
                  have h2 := hx.2
                  simp only [okVs, Bool.and_true] at h2
                  cases y with
                  | tup ps =>
                    have g1 := fun s => lc_size (n := n) (L := L) (x := .str z) (b := none) (ps := ps) (s := s) (fun p hp => ih p hp s) h2
                    have hl2 : (ps.map (sizeOf2 L)).length ≤ 1000 := by rw [List.length_map]; exact (okV_tup h2).1
                    have g2 := fun s => tail_ok (n := n + 1) (a := some (.tup [.str z, .tup ps])) (b := some (.int (L + 1))) (s := s) hl2
                    have hps := purs_ok _ (okV_tup h2).2
                    simp [-List.map_map, w__law_size, midS, exs, ex, ev, ↓ev_call, evs, evt, evo, evi, evand, evor, bd_some, bd_none, truD, cmpD, biD, seqOf, lstOf, eqD, view_int, view_bl, view_str, view_non, view_tup, view_lst, deq, deqs, dep_int, dep_bl, dep_str, dep_non, pur_int, pur_bl, pur_str, pur_non, pur_tup, purs_nil, purs_cons, asgT, asgTs, idxD, ixD, isiD, binD, iopD, fin_int, fin_bl, fin_str, fin_non, sizeOf2, hL, t0, t1, f1, hps, hdep, hmin, b1, b2, c1, c2, a1, e3, combT, ↓g1, ↓g2, f2]
                  | ref _ => cases h2
                  | rol _ => cases h2
                  | lst _ => cases h2
                  | _ => simp [w__law_size, midS, exs, ex, ev, ↓ev_call, evs, evt, evo, evi, evand, evor, bd_some, bd_none, truD, cmpD, biD, seqOf, lstOf, eqD, view_int, view_bl, view_str, view_non, view_tup, view_lst, deq, deqs, dep_int, dep_bl, dep_str, dep_non, pur_int, pur_bl, pur_str, pur_non, pur_tup, purs_nil, purs_cons, asgT, asgTs, idxD, ixD, isiD, binD, iopD, fin_int, fin_bl, fin_str, fin_non, sizeOf2, hL, t0, t1, f1, pD, hpp, hdep, hmin, b1, b2, c1, c2, a1, e3, combT]
                | y :: w :: r, _ =>
                  have hl : ((r.length : Int) + 1 + 1 + 1 == 2) = false := by rw [beq_eq_false_iff_ne]; omega
                  simp [w__law_size, midS, exs, ex, ev, ↓ev_call, evs, evt, evo, evi, evand, evor, bd_some, bd_none, truD, cmpD, biD, seqOf, lstOf, eqD, view_int, view_bl, view_str, view_non, view_tup, view_lst, deq, deqs, dep_int, dep_bl, dep_str, dep_non, pur_int, pur_bl, pur_str, pur_non, pur_tup, purs_nil, purs_cons, asgT, asgTs, idxD, ixD, isiD, binD, iopD, fin_int, fin_bl, fin_str, fin_non, sizeOf2, hL, t0, t1, f1, pD, hpp, hdep, hmin, b1, b2, c1, c2, a1, e3, combT, hl]
              · have e3' : isAO (.str z) = false := Bool.eq_false_iff.mpr e3
                simp [w__law_size, exs, ex, ev, ↓ev_call, evs, evt, evo, evi, evand, evor, bd_some, bd_none, truD, cmpD, biD, seqOf, lstOf, eqD, view_int, view_bl, view_str, view_non, view_tup, view_lst, deq, deqs, dep_int, dep_bl, dep_str, dep_non, pur_int, pur_bl, pur_str, pur_non, pur_tup, purs_nil, purs_cons, asgT, asgTs, idxD, ixD, isiD, binD, iopD, fin_int, fin_bl, fin_str, fin_non, sizeOf2, hL, t0, t1, f1, pD, hpp, hdep, hmin, b1, b2, e1, e2, a1, e3']
        | ref _ => cases hx.1
        | rol _ => cases hx.1
        | lst _ => cases hx.1
        | _ => simp [w__law_size, exs, ex, ev, ↓ev_call, evs, evt, evo, evi, evand, evor, bd_some, bd_none, truD, cmpD, biD, seqOf, lstOf, eqD, view_int, view_bl, view_str, view_non, view_tup, view_lst, deq, deqs, dep_int, dep_bl, dep_str, dep_non, pur_int, pur_bl, pur_str, pur_non, pur_tup, purs_nil, purs_cons, asgT, asgTs, idxD, ixD, isiD, binD, iopD, fin_int, fin_bl, fin_str, fin_non, sizeOf2, hL, t0, t1, f1, pD, hpp, hdep, hmin, isAO]
    | ref _ => cases hv
    | rol _ => cases hv
    | lst _ => cases hv
    | _ => simp [w__law_size, exs, ex, ev, ↓ev_call, evs, evt, evo, evi, evand, evor, bd_some, bd_none, truD, cmpD, biD, seqOf, lstOf, eqD, view_int, view_bl, view_str, view_non, view_tup, view_lst, deq, deqs, dep_int, dep_bl, dep_str, dep_non, pur_int, pur_bl, pur_str, pur_non, pur_tup, purs_nil, purs_cons, asgT, asgTs, idxD, ixD, isiD, binD, iopD, fin_int, fin_bl, fin_str, fin_non, sizeOf2, hL, t0, t1, f1, pD]
end Kp

namespace Kp
open PySem
theorem maxI_le {L : Int} : ∀ {l : List Int}, l ≠ [] → (maxI l ≤ L ↔ ∀ x ∈ l, x ≤ L)
  | [], h => absurd rfl h
  | [x], _ => by simp [maxI]
  | x :: y :: r, _ => by
    have ih := maxI_le (L := L) (l := y :: r) (by simp)
    have e : maxI (x :: y :: r) = max x (maxI (y :: r)) := rfl
    rw [e, Int.max_le, ih]
    simp
theorem maxI_nn (l : List Int) : 0 ≤ maxI (0 :: l) := by
  by_cases h : 0 ≤ maxI (0 :: l)
  · exact h
  · have h1 : maxI (0 :: l) ≤ maxI (0 :: l) := Int.le_refl _
    have h2 := (maxI_le (L := maxI (0 :: l)) (l := 0 :: l) (by simp)).mp h1 0 (by simp)
    exact h2
/-- what the two ways of counting have to do with one another -/
def RelZ (d : Nat) (v : D) : Prop := (sizeOf2 d v = (0, 0) ∨ (1 ≤ (sizeOf2 d v).1 ∧ 1 ≤ (sizeOf2 d v).2)) ∧ ∀ L, L ≤ d → partsOf L v = if (sizeOf2 d v).1 ≠ 0 ∧ (sizeOf2 d v).2 ≤ L then (sizeOf2 d v).1 else 0
theorem relZ_0 {v : D} : RelZ 0 v := ⟨.inl rfl, fun L hL => by
  obtain rfl : L = 0 := by omega
  simp [sizeOf2, partsOf]⟩
theorem sum_pos : ∀ {l : List Int}, (∀ x ∈ l, 1 ≤ x) → 0 ≤ l.sum
  | [], _ => by simp
  | x :: l, h => by
    have h1 := h x (by simp)
    have h2 := sum_pos (l := l) fun y hy => h y (by simp [hy])
    rw [List.sum_cons]
    omega
theorem comb_rel {d : Nat} {ps : List D} (ih : ∀ p ∈ ps, RelZ d p) {L : Nat} (hL : L ≤ d) : manyOf (partsOf L) ps = if (comb (ps.map (sizeOf2 d))).1 ≠ 0 ∧ (comb (ps.map (sizeOf2 d))).2 ≤ ((L + 1 : Nat) : Int) then (comb (ps.map (sizeOf2 d))).1 else 0 := by
  unfold comb manyOf
  by_cases hz : (ps.map (sizeOf2 d)).any (fun z => z.1 == 0 && z.2 == 0) = true
  · rw [if_pos hz]
    obtain ⟨z, hm, hz0⟩ := List.any_eq_true.mp hz
    obtain ⟨p, hp, rfl⟩ := List.mem_map.mp hm
    rw [Bool.and_eq_true, beq_iff_eq, beq_iff_eq] at hz0
    have e := (ih p hp).2 L hL
    rw [hz0.1] at e
    simp at e
    have ha : ps.any (fun p => partsOf L p == 0) = true := List.any_eq_true.mpr ⟨p, hp, by rw [e]; rfl⟩
    rw [if_pos ha]
    simp
  · rw [if_neg hz]
    have pos : ∀ p ∈ ps, 1 ≤ (sizeOf2 d p).1 ∧ 1 ≤ (sizeOf2 d p).2 := fun p hp => by
      rcases (ih p hp).1 with h | h
      · exfalso
        apply hz
        refine List.any_eq_true.mpr ⟨sizeOf2 d p, List.mem_map.mpr ⟨p, hp, rfl⟩, ?_⟩
        rw [h]
        rfl
      · exact h
    have hs : 0 ≤ ((ps.map (sizeOf2 d)).map (·.1)).sum := sum_pos fun x hx => by
      obtain ⟨z, hz1, rfl⟩ := List.mem_map.mp hx
      obtain ⟨p, hp, rfl⟩ := List.mem_map.mp hz1
      exact (pos p hp).1
    have hm := maxI_le (L := (L : Int)) (l := 0 :: (ps.map (sizeOf2 d)).map (·.2)) (by simp)
    by_cases hall : ∀ p ∈ ps, (sizeOf2 d p).2 ≤ (L : Int)
    · have hm2 : maxI (0 :: (ps.map (sizeOf2 d)).map (·.2)) ≤ (L : Int) := hm.mpr fun x hx => by
        rcases List.mem_cons.mp hx with rfl | hx
        · omega
        · obtain ⟨z, hz1, rfl⟩ := List.mem_map.mp hx
          obtain ⟨p, hp, rfl⟩ := List.mem_map.mp hz1
          exact hall p hp
      have hpo : ∀ p ∈ ps, partsOf L p = (sizeOf2 d p).1 := fun p hp => by
        rw [(ih p hp).2 L hL, if_pos ⟨by have := (pos p hp).1; omega, hall p hp⟩]
      have ha : ps.any (fun p => partsOf L p == 0) = false := by
        rw [Bool.eq_false_iff]
        intro h
        obtain ⟨p, hp, h0⟩ := List.any_eq_true.mp h
        rw [beq_iff_eq, hpo p hp] at h0
        have := (pos p hp).1
        omega
      rw [ha, if_neg Bool.false_ne_true, if_pos ⟨by show 1 + _ ≠ 0; omega, by show 1 + _ ≤ _; omega⟩]
      show 1 + (ps.map (partsOf L)).sum = 1 + ((ps.map (sizeOf2 d)).map (·.1)).sum
      rw [List.map_map]
      refine congrArg (fun l => 1 + List.sum l) (List.map_congr_left fun p hp => hpo p hp)
    · have hm2 : ¬ maxI (0 :: (ps.map (sizeOf2 d)).map (·.2)) ≤ (L : Int) := fun h => hall fun p hp => hm.mp h _ (by
        refine List.mem_cons_of_mem _ (List.mem_map.mpr ⟨sizeOf2 d p, List.mem_map.mpr ⟨p, hp, rfl⟩, rfl⟩))
      have ha : ps.any (fun p => partsOf L p == 0) = true := by
        by_cases h : ps.any (fun p => partsOf L p == 0) = true
        · exact h
        · exfalso
          apply hall
          intro p hp
          by_cases hh : (sizeOf2 d p).2 ≤ (L : Int)
          · exact hh
          · exfalso
            apply h
            refine List.any_eq_true.mpr ⟨p, hp, ?_⟩
            rw [(ih p hp).2 L hL, if_neg fun z => hh z.2]
            rfl
      rw [ha, if_pos rfl, if_neg fun z => hm2 (by have h : 1 + _ ≤ ((L + 1 : Nat) : Int) := z.2; omega)]
theorem comb_pos {d : Nat} {ps : List D} (ih : ∀ p ∈ ps, RelZ d p) : comb (ps.map (sizeOf2 d)) = (0, 0) ∨ (1 ≤ (comb (ps.map (sizeOf2 d))).1 ∧ 1 ≤ (comb (ps.map (sizeOf2 d))).2) := by
  unfold comb
  by_cases hz : (ps.map (sizeOf2 d)).any (fun z => z.1 == 0 && z.2 == 0) = true
  · rw [if_pos hz]
    exact .inl rfl
  · rw [if_neg hz]
    have pos : ∀ p ∈ ps, 1 ≤ (sizeOf2 d p).1 ∧ 1 ≤ (sizeOf2 d p).2 := fun p hp => by
      rcases (ih p hp).1 with h | h
      · exfalso
        apply hz
        refine List.any_eq_true.mpr ⟨sizeOf2 d p, List.mem_map.mpr ⟨p, hp, rfl⟩, ?_⟩
        rw [h]
        rfl
      · exact h
    have hs : 0 ≤ ((ps.map (sizeOf2 d)).map (·.1)).sum := sum_pos fun x hx => by
      obtain ⟨z, hz1, rfl⟩ := List.mem_map.mp hx
      obtain ⟨p, hp, rfl⟩ := List.mem_map.mp hz1
      exact (pos p hp).1
    have hm := maxI_nn ((ps.map (sizeOf2 d)).map (·.2))
    refine .inr ⟨?_, ?_⟩
    · show 1 ≤ 1 + _
      omega
    · show 1 ≤ 1 + _
      omega
theorem relZ : ∀ (d : Nat) (v : D), RelZ d v
  | 0, v => relZ_0
  | d + 1, v => by
    have ih := relZ d
    cases v with
    | tup ds =>
      cases ds with
      | nil =>
        refine ⟨.inl rfl, fun L hL => ?_⟩
        cases L <;> simp [partsOf, sizeOf2]
      | cons x xs =>
        have z0 : ∀ {z : Int × Int} {L : Nat}, z = (0, 0) → (0 : Int) = if z.1 ≠ 0 ∧ z.2 ≤ L then z.1 else 0 := fun h => by subst h; simp
        by_cases e1 : x = .str "grade"
        · have es : sizeOf2 (d + 1) (.tup (x :: xs)) = if gradeB (x :: xs) then (1, 1) else (0, 0) := by simp [sizeOf2, e1]
          have ep : ∀ L, partsOf (L + 1) (.tup (x :: xs)) = if gradeB (x :: xs) then 1 else 0 := fun L => by simp [partsOf, e1]
          unfold RelZ
          rw [es]
          cases hg : gradeB (x :: xs) with
          | true =>
            refine ⟨.inr ⟨by simp, by simp⟩, fun L hL => ?_⟩
            cases L with
            | zero => simp [partsOf]
            | succ L => rw [ep, hg, if_pos rfl, if_pos rfl, if_pos ⟨by decide, by show (1 : Int) ≤ ((L + 1 : Nat) : Int); omega⟩]
          | false =>
            refine ⟨.inl rfl, fun L hL => ?_⟩
            cases L with
            | zero => simp [partsOf]
            | succ L => rw [ep, hg]; simp
        · by_cases e2 : x = .str "points"
          · have es : sizeOf2 (d + 1) (.tup (x :: xs)) = if pointB (x :: xs) then (1, 1) else (0, 0) := by simp [sizeOf2, e1, e2, q_pg]
            have ep : ∀ L, partsOf (L + 1) (.tup (x :: xs)) = if pointB (x :: xs) then 1 else 0 := fun L => by simp [partsOf, e1, e2, q_pg]
            unfold RelZ
            rw [es]
            cases hg : pointB (x :: xs) with
            | true =>
              refine ⟨.inr ⟨by simp, by simp⟩, fun L hL => ?_⟩
              cases L with
              | zero => simp [partsOf]
              | succ L => rw [ep, hg, if_pos rfl, if_pos rfl, if_pos ⟨by decide, by show (1 : Int) ≤ ((L + 1 : Nat) : Int); omega⟩]
            | false =>
              refine ⟨.inl rfl, fun L hL => ?_⟩
              cases L with
              | zero => simp [partsOf]
              | succ L => rw [ep, hg]; simp
          · cases e3 : isAO x with
            | false =>
              have es : sizeOf2 (d + 1) (.tup (x :: xs)) = (0, 0) := by simp [sizeOf2, e1, e2, e3]
              unfold RelZ
              rw [es]
              refine ⟨.inl rfl, fun L hL => ?_⟩
              cases L with
              | zero => simp [partsOf]
              | succ L => simp [partsOf, e1, e2, e3]
            | true =>
              have es : sizeOf2 (d + 1) (.tup (x :: xs)) = combT (sizeOf2 d) xs := by simp [sizeOf2, e1, e2, e3]
              have ep : ∀ L, partsOf (L + 1) (.tup (x :: xs)) = manyT (partsOf L) xs := fun L => by simp [partsOf, e1, e2, e3]
              unfold RelZ
              rw [es]
              by_cases hx : ∃ ps, xs = [.tup ps]
              · obtain ⟨ps, rfl⟩ := hx
                refine ⟨comb_pos fun p _ => ih p, fun L hL => ?_⟩
                cases L with
                | zero =>
                  have := comb_pos (d := d) (ps := ps) fun p _ => ih p
                  have e : combT (sizeOf2 d) [.tup ps] = comb (ps.map (sizeOf2 d)) := rfl
                  rw [e]
                  rcases this with h | h
                  · rw [h]; simp [partsOf]
                  · rw [if_neg fun z => by have := z.2; omega]; simp [partsOf]
                | succ L =>
                  rw [ep]
                  exact comb_rel (fun p _ => ih p) (by omega)
              · have hm : ∀ f, manyT f xs = 0 := fun f => by
                  unfold manyT
                  split
                  · exact absurd ⟨_, rfl⟩ hx
                  · rfl
                have hc : combT (sizeOf2 d) xs = (0, 0) := by
                  unfold combT
                  split
                  · exact absurd ⟨_, rfl⟩ hx
                  · rfl
                rw [hc]
                refine ⟨.inl rfl, fun L hL => ?_⟩
                cases L with
                | zero => simp [partsOf]
                | succ L => rw [ep, hm]; simp
    | _ =>
      refine ⟨.inl rfl, fun L hL => ?_⟩
      cases L <;> simp [partsOf, sizeOf2]
def condB (v : D) : Bool := decide (1 ≤ partsOf 6 v ∧ partsOf 6 v ≤ 20)
theorem cond_eq (v : D) : (decide (0 < (sizeOf2 30 v).1 ∧ (sizeOf2 30 v).1 ≤ 20) && decide ((sizeOf2 30 v).2 ≤ 6)) = condB v := by
  obtain ⟨h1, h2⟩ := relZ 30 v
  have h2 := h2 6 (by decide)
  unfold condB
  rw [Bool.eq_iff_iff, Bool.and_eq_true, decide_eq_true_eq, decide_eq_true_eq, decide_eq_true_eq, h2]
  have h6 : ((6 : Nat) : Int) = 6 := rfl
  rw [h6]
  constructor
  · rintro ⟨⟨a, b⟩, c⟩
    rw [if_pos ⟨by omega, c⟩]
    omega
  · rintro ⟨a, b⟩
    by_cases hc : (sizeOf2 30 v).1 ≠ 0 ∧ (sizeOf2 30 v).2 ≤ 6
    · rw [if_pos hc] at a b
      exact ⟨⟨by omega, b⟩, hc.2⟩
    · rw [if_neg hc] at a
      omega
theorem check_ok {n : Nat} {v : D} {s : S} (hv : okV v = true) (hn : 15 ≤ n) : R n 5 [v] s = some (.bl (condB v), s) := by
  obtain ⟨n, rfl⟩ : ∃ m, n = m + 1 := ⟨n - 1, by omega⟩
  rw [R_eq (fn := w_check_condition) rfl rfl]
  have g : ∀ s, R n 4 [v, .int 6] s = some (.int (partsOf 6 v), s) := fun s => parts_ok 6 n v s hv (by omega)
  by_cases h1 : 1 ≤ partsOf 6 v <;> simp [w_check_condition, exs, ex, ev, ↓ev_call, evs, evt, evo, evi, evand, evor, bd_some, bd_none, truD, cmpD, biD, seqOf, lstOf, eqD, view_int, view_bl, view_str, view_non, view_tup, view_lst, deq, deqs, dep_int, dep_bl, dep_str, dep_non, pur_int, pur_bl, pur_str, pur_non, pur_tup, purs_nil, purs_cons, asgT, asgTs, idxD, ixD, isiD, binD, iopD, fin_int, fin_bl, fin_str, fin_non, G_2, G_3, g, h1, condB]
theorem alk_int {i j : Int} : alk (.int i) (.int j) = true := rfl
theorem dlt_int {i j : Int} : dlt (.int i) (.int j) = some (decide (i < j)) := rfl
theorem iscond_ok {n : Nat} {v : D} {s : S} (hv : okV v = true) (hn : 40 ≤ n) : R n 12 [v] s = some (.bl (condB v), s) := by
  obtain ⟨n, rfl⟩ : ∃ m, n = m + 1 := ⟨n - 1, by omega⟩
  rw [R_eq (fn := w__law_is_condition) rfl rfl]
  have g : ∀ s, R n 11 [v, .int 30] s = some (pD (sizeOf2 30 v), s) := fun s => size_ok 30 n v s hv (by omega)
  rw [← cond_eq]
  by_cases h1 : 0 < (sizeOf2 30 v).1 <;> by_cases h2 : (sizeOf2 30 v).1 ≤ 20 <;> simp [w__law_is_condition, exs, ex, ev, ↓ev_call, evs, evt, evo, evi, evand, evor, bd_some, bd_none, truD, cmpD, biD, seqOf, lstOf, eqD, view_int, view_bl, view_str, view_non, view_tup, view_lst, deq, deqs, dep_int, dep_bl, dep_str, dep_non, pur_int, pur_bl, pur_str, pur_non, pur_tup, purs_nil, purs_cons, asgT, asgTs, idxD, ixD, isiD, binD, iopD, fin_int, fin_bl, fin_str, fin_non, alk_int, dlt_int, g, pD, h1, h2]
end Kp

namespace Kp
open PySem
def fl5 (a b c d : Int) (cells : List Int) : List D := [.int a, .int b, .int c, .int d, .lst (cells.map D.int)]
def Flw (fl : List D) : Prop := ∃ a b c d cells, fl = fl5 a b c d cells ∧ 0 ≤ a ∧ 0 ≤ b ∧ 0 ≤ c ∧ 0 ≤ d ∧ 0 < cells.length ∧ cells.length ≤ 64 ∧ ∀ x ∈ cells, 0 ≤ x
theorem lows_ints (n : Nat) : ∀ l : List Int, lows n (l.map D.int) = true
  | [] => rfl
  | x :: l => by
    show (true && lows n (l.map D.int)) = true
    rw [lows_ints n l]
    rfl
theorem low_fl {n : Nat} {fl : List D} (h : Flw fl) : lows n fl = true := by
  obtain ⟨a, b, c, d, cells, rfl, _⟩ := h
  show (true && (true && (true && (true && (lows n (cells.map D.int) && true))))) = true
  rw [lows_ints]
  rfl
theorem fin_flow {fl fl' : List D} {rest : S} {r : D} (h : Flw fl') (hr : pur r = true) : fin false (.lst fl :: rest) r (.lst fl' :: rest) = some (r, .lst fl' :: rest) := by
  unfold fin
  have hok : oldOk (.lst fl :: rest) (.lst fl' :: rest) := fun j hj => by
    cases j with
    | zero => exact .inr ⟨.lst fl', rfl, low_fl h⟩
    | succ j => exact .inl rfl
  rw [if_neg Bool.false_ne_true, shut_pur hr, if_pos ⟨low_pur _ r hr, hok⟩, List.take_of_length_le (by simp)]
theorem idx_c {cells : List Int} {i : Int} (h0 : 0 ≤ i) (h1 : i < cells.length) : ∃ z, z ∈ cells ∧ ∀ s, idxD (.lst (cells.map D.int)) (.int i) s = some (.int z) := by
  have hl : i.toNat < cells.length := by omega
  refine ⟨cells[i.toNat], List.getElem_mem hl, fun s => ?_⟩
  show ((ixD (cells.map D.int).length i).bind fun j => (cells.map D.int)[j]?) = _
  unfold ixD
  rw [if_pos h0, List.length_map, if_pos h1]
  show (cells.map D.int)[i.toNat]? = _
  rw [List.getElem?_map, List.getElem?_eq_getElem hl]
  rfl
theorem get_c {cells : List Int} {i : Nat} (h : i < cells.length) : ∃ z, z ∈ cells ∧ cells[i]? = some z := ⟨cells[i], List.getElem_mem h, List.getElem?_eq_getElem h⟩
theorem len_c {cells : List Int} {s : S} : biD .len false [.lst (cells.map D.int)] s = some (.int cells.length, s) := by
  show (some (cells.map D.int)).map (fun xs : List D => (D.int xs.length, s)) = _
  rw [Option.map_some, List.length_map]
section
variable {n : Nat} {m a b c d : Int} {cells : List Int} {rest : S}
abbrev stF (a b c d : Int) (cells : List Int) (rest : S) : S := .lst (fl5 a b c d cells) :: rest
theorem draw_s0 {env : List (Option D)} : ex G (calls G Ps n) v__law_draw_0 (some (.ref 0) :: env) (stF a b c d cells rest) = some (.nx, some (.ref 0) :: env, stF a b c (d + 1) cells rest) := by
  simp [v__law_draw_0, stF, fl5, exs, ex, ev, ↓ev_call, evs, evt, evo, evi, evand, evor, bd_some, bd_none, truD, cmpD, biD, seqOf, lstOf, eqD, view_int, view_bl, view_str, view_non, view_tup, view_lst, deq, deqs, dep_int, dep_bl, dep_str, dep_non, pur_int, pur_bl, pur_str, pur_non, pur_tup, purs_nil, purs_cons, asgT, asgTs, idxD, ixD, isiD, binD, iopD, fin_int, fin_bl, fin_str, fin_non, setD]
theorem draw_s1 : ex G (calls G Ps n) v__law_draw_1 [some (.ref 0), some (.int m), none, none, none, none, none] (stF a b c d cells rest) = some (.nx, [some (.ref 0), some (.int m), some (.lst (cells.map D.int)), none, none, none, none], stF a b c d cells rest) := by
  simp [v__law_draw_1, stF, fl5, exs, ex, ev, ↓ev_call, evs, evt, evo, evi, evand, evor, bd_some, bd_none, truD, cmpD, biD, seqOf, lstOf, eqD, view_int, view_bl, view_str, view_non, view_tup, view_lst, deq, deqs, dep_int, dep_bl, dep_str, dep_non, pur_int, pur_bl, pur_str, pur_non, pur_tup, purs_nil, purs_cons, asgT, asgTs, idxD, ixD, isiD, binD, iopD, fin_int, fin_bl, fin_str, fin_non, setD]
theorem draw_s2 (h : 0 < cells.length ∧ cells.length ≤ 64 ∧ ∀ x ∈ cells, 0 ≤ x) (h0 : 0 ≤ a ∧ 0 ≤ b ∧ 0 ≤ c ∧ 0 ≤ d) :
    ∃ a' b' c', (0 ≤ a' ∧ 0 ≤ b' ∧ 0 ≤ c') ∧ ex G (calls G Ps n) v__law_draw_2 [some (.ref 0), some (.int m), some (.lst (cells.map D.int)), none, none, none, none] (stF a b c d cells rest) =
      some (.nx, [some (.ref 0), some (.int m), some (.lst (cells.map D.int)), none, none, none, none], stF a' b' c' d cells rest) := by
  have hl0 := h.1
  have hc0 := h0.2.2.1
  have same : ∀ {r}, r = some (Fl.nx, [some (D.ref 0), some (D.int m), some (D.lst (cells.map D.int)), none, none, none, none], stF a b c d cells rest) → ∃ a' b' c', (0 ≤ a' ∧ 0 ≤ b' ∧ 0 ≤ c') ∧ r =
      some (.nx, [some (.ref 0), some (.int m), some (.lst (cells.map D.int)), none, none, none, none], stF a' b' c' d cells rest) := fun e => ⟨a, b, c, ⟨h0.1, h0.2.1, h0.2.2.1⟩, e⟩
  by_cases hb : b = 0
  · subst hb
    by_cases hm : cells[0] % 2 = 0
    · by_cases hc : c < cells.length
      · have hc1 : c.toNat < cells.length := by omega
        by_cases hg : (1000000000000000000 : Int) ≤ cells[c.toNat]
        · refine ⟨cells[c.toNat] / 2, 60, c + 1, ⟨by have := h.2.2 cells[c.toNat] (List.getElem_mem hc1); omega, by decide, by omega⟩, ?_⟩
          simp [v__law_draw_2, stF, fl5, exs, ex, ev, ↓ev_call, evs, evt, evo, evi, evand, evor, bd_some, bd_none, truD, cmpD, biD, seqOf, lstOf, eqD, view_int, view_bl, view_str, view_non, view_tup, view_lst, deq, deqs, dep_int, dep_bl, dep_str, dep_non, pur_int, pur_bl, pur_str, pur_non, pur_tup, purs_nil, purs_cons, asgT, asgTs, idxD, ixD, isiD, binD, iopD, fin_int, fin_bl, fin_str, fin_non, setD, hl0, hc, hc1, hc0, hm, hg, smallI, alk_int, dlt_int]
        · refine same ?_
          simp [v__law_draw_2, stF, fl5, exs, ex, ev, ↓ev_call, evs, evt, evo, evi, evand, evor, bd_some, bd_none, truD, cmpD, biD, seqOf, lstOf, eqD, view_int, view_bl, view_str, view_non, view_tup, view_lst, deq, deqs, dep_int, dep_bl, dep_str, dep_non, pur_int, pur_bl, pur_str, pur_non, pur_tup, purs_nil, purs_cons, asgT, asgTs, idxD, ixD, isiD, binD, iopD, fin_int, fin_bl, fin_str, fin_non, setD, hl0, hc, hc1, hc0, hm, hg, smallI, alk_int, dlt_int]
      · refine same ?_
        simp [v__law_draw_2, stF, fl5, exs, ex, ev, ↓ev_call, evs, evt, evo, evi, evand, evor, bd_some, bd_none, truD, cmpD, biD, seqOf, lstOf, eqD, view_int, view_bl, view_str, view_non, view_tup, view_lst, deq, deqs, dep_int, dep_bl, dep_str, dep_non, pur_int, pur_bl, pur_str, pur_non, pur_tup, purs_nil, purs_cons, asgT, asgTs, idxD, ixD, isiD, binD, iopD, fin_int, fin_bl, fin_str, fin_non, setD, hl0, hc, hc0, hm, smallI, alk_int, dlt_int]
    · have hm' : (cells[0] % 2 == 0) = false := beq_eq_false_iff_ne.mpr hm
      refine same ?_
      simp [v__law_draw_2, stF, fl5, exs, ex, ev, ↓ev_call, evs, evt, evo, evi, evand, evor, bd_some, bd_none, truD, cmpD, biD, seqOf, lstOf, eqD, view_int, view_bl, view_str, view_non, view_tup, view_lst, deq, deqs, dep_int, dep_bl, dep_str, dep_non, pur_int, pur_bl, pur_str, pur_non, pur_tup, purs_nil, purs_cons, asgT, asgTs, idxD, ixD, isiD, binD, iopD, fin_int, fin_bl, fin_str, fin_non, setD, hl0, hc0, hm', smallI]
  · have hb' : (b == 0) = false := beq_eq_false_iff_ne.mpr hb
    refine same ?_
    simp [v__law_draw_2, stF, fl5, exs, ex, ev, ↓ev_call, evs, evt, evo, evi, evand, evor, bd_some, bd_none, truD, cmpD, biD, seqOf, lstOf, eqD, view_int, view_bl, view_str, view_non, view_tup, view_lst, deq, deqs, dep_int, dep_bl, dep_str, dep_non, pur_int, pur_bl, pur_str, pur_non, pur_tup, purs_nil, purs_cons, asgT, asgTs, idxD, ixD, isiD, binD, iopD, fin_int, fin_bl, fin_str, fin_non, hb']
end
end Kp

namespace Kp
open PySem
section
variable {n : Nat} {m a b c d : Int} {cells : List Int} {rest : S}
theorem draw_s3a (hm : 0 < m ∧ m < 1073741824) (hb : 0 < b) (ha : 0 ≤ a) : ∃ b' e, 0 ≤ b' ∧ ex G (calls G Ps n) v__law_draw_3 [some (.ref 0), some (.int m), some (.lst (cells.map D.int)), none, none, none, none] (stF a b c d cells rest) =
      some (.rt (.int (a % m)), e, stF (a / m) b' c d cells rest) := by
  by_cases h : 0 < a / m
  · refine ⟨b - 1, [some (.ref 0), some (.int m), some (.lst (cells.map D.int)), some (.int (a % m)), none, none, none], by omega, ?_⟩
    simp [v__law_draw_3, stF, fl5, exs, ex, ev, ↓ev_call, evs, evt, evo, evi, evand, evor, bd_some, bd_none, truD, cmpD, biD, seqOf, lstOf, eqD, view_int, view_bl, view_str, view_non, view_tup, view_lst, deq, deqs, dep_int, dep_bl, dep_str, dep_non, pur_int, pur_bl, pur_str, pur_non, pur_tup, purs_nil, purs_cons, asgT, asgTs, idxD, ixD, isiD, binD, iopD, fin_int, fin_bl, fin_str, fin_non, setD, smallI, hm, hb, h]
  · refine ⟨0, [some (.ref 0), some (.int m), some (.lst (cells.map D.int)), some (.int (a % m)), none, none, none], by omega, ?_⟩
    simp [v__law_draw_3, stF, fl5, exs, ex, ev, ↓ev_call, evs, evt, evo, evi, evand, evor, bd_some, bd_none, truD, cmpD, biD, seqOf, lstOf, eqD, view_int, view_bl, view_str, view_non, view_tup, view_lst, deq, deqs, dep_int, dep_bl, dep_str, dep_non, pur_int, pur_bl, pur_str, pur_non, pur_tup, purs_nil, purs_cons, asgT, asgTs, idxD, ixD, isiD, binD, iopD, fin_int, fin_bl, fin_str, fin_non, setD, smallI, hm, hb, h]
theorem draw_s3b (hb : ¬ 0 < b) : ex G (calls G Ps n) v__law_draw_3 [some (.ref 0), some (.int m), some (.lst (cells.map D.int)), none, none, none, none] (stF a b c d cells rest) =
      some (.nx, [some (.ref 0), some (.int m), some (.lst (cells.map D.int)), none, none, none, none], stF a b c d cells rest) := by
  simp [v__law_draw_3, stF, fl5, exs, ex, ev, ↓ev_call, evs, evt, evo, evi, evand, evor, bd_some, bd_none, truD, cmpD, biD, seqOf, lstOf, eqD, view_int, view_bl, view_str, view_non, view_tup, view_lst, deq, deqs, dep_int, dep_bl, dep_str, dep_non, pur_int, pur_bl, pur_str, pur_non, pur_tup, purs_nil, purs_cons, asgT, asgTs, idxD, ixD, isiD, binD, iopD, fin_int, fin_bl, fin_str, fin_non, hb]
theorem draw_s4 (hl : 0 < cells.length) (hd : 0 ≤ d) : ∃ y : Int, ex G (calls G Ps n) v__law_draw_4 [some (.ref 0), some (.int m), some (.lst (cells.map D.int)), none, none, none, none] (stF a b c d cells rest) =
      some (.nx, [some (.ref 0), some (.int m), some (.lst (cells.map D.int)), none, some (.int y), none, none], stF a b c d cells rest) := by
  have h1 : (0 : Int) < cells.length := by omega
  have h2 : 0 ≤ d % (cells.length : Int) := Int.emod_nonneg _ (by omega)
  have h3 : d % (cells.length : Int) < cells.length := Int.emod_lt_of_pos _ h1
  have h4 : (d % (cells.length : Int)).toNat < cells.length := by omega
  refine ⟨cells[(d % (cells.length : Int)).toNat], ?_⟩
  simp [v__law_draw_4, stF, fl5, exs, ex, ev, ↓ev_call, evs, evt, evo, evi, evand, evor, bd_some, bd_none, truD, cmpD, biD, seqOf, lstOf, eqD, view_int, view_bl, view_str, view_non, view_tup, view_lst, deq, deqs, dep_int, dep_bl, dep_str, dep_non, pur_int, pur_bl, pur_str, pur_non, pur_tup, purs_nil, purs_cons, asgT, asgTs, idxD, ixD, isiD, binD, iopD, fin_int, fin_bl, fin_str, fin_non, hl, h2, h3, h4]
theorem draw_s5 (hl : 0 < cells.length) (hc : 0 ≤ c) {y : Int} : ∃ c', 0 ≤ c' ∧ ex G (calls G Ps n) v__law_draw_5 [some (.ref 0), some (.int m), some (.lst (cells.map D.int)), none, some (.int y), none, none] (stF a b c d cells rest) =
      some (.nx, [some (.ref 0), some (.int m), some (.lst (cells.map D.int)), none, some (.int y), none, none], stF a b c' d cells rest) := by
  by_cases h : (cells.length : Int) - 1 < c
  · have h2 : (1 : Int) ≤ (cells.length : Int) := by omega
    have h3 : (cells.length : Int) - 1 < cells.length := by omega
    have h4 : cells.length - 1 < cells.length := by omega
    by_cases hz : cells[cells.length - 1] < (1000000000000000000 : Int)
    · refine ⟨c + 1, by omega, ?_⟩
      simp [v__law_draw_5, stF, fl5, exs, ex, ev, ↓ev_call, evs, evt, evo, evi, evand, evor, bd_some, bd_none, truD, cmpD, biD, seqOf, lstOf, eqD, view_int, view_bl, view_str, view_non, view_tup, view_lst, deq, deqs, dep_int, dep_bl, dep_str, dep_non, pur_int, pur_bl, pur_str, pur_non, pur_tup, purs_nil, purs_cons, asgT, asgTs, idxD, ixD, isiD, binD, iopD, fin_int, fin_bl, fin_str, fin_non, setD, smallI, alk_int, dlt_int, h, h2, h3, h4, hz]
    · refine ⟨c, by omega, ?_⟩
      simp [v__law_draw_5, stF, fl5, exs, ex, ev, ↓ev_call, evs, evt, evo, evi, evand, evor, bd_some, bd_none, truD, cmpD, biD, seqOf, lstOf, eqD, view_int, view_bl, view_str, view_non, view_tup, view_lst, deq, deqs, dep_int, dep_bl, dep_str, dep_non, pur_int, pur_bl, pur_str, pur_non, pur_tup, purs_nil, purs_cons, asgT, asgTs, idxD, ixD, isiD, binD, iopD, fin_int, fin_bl, fin_str, fin_non, setD, smallI, alk_int, dlt_int, h, h2, h3, h4, hz]
  · have h3 : c < cells.length := by omega
    have h4 : c.toNat < cells.length := by omega
    by_cases hz : cells[c.toNat] < (1000000000000000000 : Int)
    · refine ⟨c + 1, by omega, ?_⟩
      simp [v__law_draw_5, stF, fl5, exs, ex, ev, ↓ev_call, evs, evt, evo, evi, evand, evor, bd_some, bd_none, truD, cmpD, biD, seqOf, lstOf, eqD, view_int, view_bl, view_str, view_non, view_tup, view_lst, deq, deqs, dep_int, dep_bl, dep_str, dep_non, pur_int, pur_bl, pur_str, pur_non, pur_tup, purs_nil, purs_cons, asgT, asgTs, idxD, ixD, isiD, binD, iopD, fin_int, fin_bl, fin_str, fin_non, setD, smallI, alk_int, dlt_int, h, hc, h3, h4, hz]
    · refine ⟨c, by omega, ?_⟩
      simp [v__law_draw_5, stF, fl5, exs, ex, ev, ↓ev_call, evs, evt, evo, evi, evand, evor, bd_some, bd_none, truD, cmpD, biD, seqOf, lstOf, eqD, view_int, view_bl, view_str, view_non, view_tup, view_lst, deq, deqs, dep_int, dep_bl, dep_str, dep_non, pur_int, pur_bl, pur_str, pur_non, pur_tup, purs_nil, purs_cons, asgT, asgTs, idxD, ixD, isiD, binD, iopD, fin_int, fin_bl, fin_str, fin_non, setD, smallI, alk_int, dlt_int, h, hc, h3, h4, hz]
theorem draw_s6 {y : Int} : ∃ z : Int, (0 ≤ z ∧ z < 2147483647) ∧ ex G (calls G Ps n) v__law_draw_6 [some (.ref 0), some (.int m), some (.lst (cells.map D.int)), none, some (.int y), none, none] (stF a b c d cells rest) =
      some (.nx, [some (.ref 0), some (.int m), some (.lst (cells.map D.int)), none, some (.int y), some (.int z), none], stF a b c d cells rest) := by
  refine ⟨(y * 48271 + d * 69621 + 5) % 2147483647, by omega, ?_⟩
  simp [v__law_draw_6, stF, fl5, exs, ex, ev, ↓ev_call, evs, evt, evo, evi, evand, evor, bd_some, bd_none, truD, cmpD, biD, seqOf, lstOf, eqD, view_int, view_bl, view_str, view_non, view_tup, view_lst, deq, deqs, dep_int, dep_bl, dep_str, dep_non, pur_int, pur_bl, pur_str, pur_non, pur_tup, purs_nil, purs_cons, asgT, asgTs, idxD, ixD, isiD, binD, iopD, fin_int, fin_bl, fin_str, fin_non, smallI]
theorem draw_s7 {y z : Int} (hz : 0 ≤ z ∧ z < 2147483647) : ∃ w : Int, (0 ≤ w ∧ w < 2147483399) ∧ ex G (calls G Ps n) v__law_draw_7 [some (.ref 0), some (.int m), some (.lst (cells.map D.int)), none, some (.int y), some (.int z), none] (stF a b c d cells rest) =
      some (.nx, [some (.ref 0), some (.int m), some (.lst (cells.map D.int)), none, some (.int y), some (.int z), some (.int w)], stF a b c d cells rest) := by
  refine ⟨(z * z + d * 40692) % 2147483399, by omega, ?_⟩
  have h1 : -18446744073709551616 < z ∧ z < 18446744073709551616 := by omega
  simp [v__law_draw_7, stF, fl5, exs, ex, ev, ↓ev_call, evs, evt, evo, evi, evand, evor, bd_some, bd_none, truD, cmpD, biD, seqOf, lstOf, eqD, view_int, view_bl, view_str, view_non, view_tup, view_lst, deq, deqs, dep_int, dep_bl, dep_str, dep_non, pur_int, pur_bl, pur_str, pur_non, pur_tup, purs_nil, purs_cons, asgT, asgTs, idxD, ixD, isiD, binD, iopD, fin_int, fin_bl, fin_str, fin_non, smallI, h1]
theorem draw_s8 {y z w : Int} (hm : 0 < m) (hw : 0 ≤ w ∧ w < 2147483399) : ∃ r e, (0 ≤ r ∧ r < m) ∧ ex G (calls G Ps n) v__law_draw_8 [some (.ref 0), some (.int m), some (.lst (cells.map D.int)), none, some (.int y), some (.int z), some (.int w)] (stF a b c d cells rest) =
      some (.rt (.int r), e, stF a b c d cells rest) := by
  have h1 : -18446744073709551616 < w ∧ w < 18446744073709551616 := by omega
  refine ⟨(w * w + z) % 2147483647 / 8 % m, [some (.ref 0), some (.int m), some (.lst (cells.map D.int)), none, some (.int y), some (.int z), some (.int w)], ⟨Int.emod_nonneg _ (by omega), Int.emod_lt_of_pos _ hm⟩, ?_⟩
  simp [v__law_draw_8, stF, fl5, exs, ex, ev, ↓ev_call, evs, evt, evo, evi, evand, evor, bd_some, bd_none, truD, cmpD, biD, seqOf, lstOf, eqD, view_int, view_bl, view_str, view_non, view_tup, view_lst, deq, deqs, dep_int, dep_bl, dep_str, dep_non, pur_int, pur_bl, pur_str, pur_non, pur_tup, purs_nil, purs_cons, asgT, asgTs, idxD, ixD, isiD, binD, iopD, fin_int, fin_bl, fin_str, fin_non, smallI, h1, hm]
theorem exs_nx {cf : List CF} {st : St} {ss : Ss} {env env' : List (Option D)} {s s' : S} (h : ex G cf st env s = some (.nx, env', s')) : exs G cf (.cons st ss) env s = exs G cf ss env' s' := by
  show (match ex G cf st env s with
    | some (.nx, env', s') => exs G cf ss env' s'
    | r => r) = _
  rw [h]
theorem exs_rt {cf : List CF} {st : St} {ss : Ss} {env env' : List (Option D)} {s s' : S} {r : D} (h : ex G cf st env s = some (.rt r, env', s')) : exs G cf (.cons st ss) env s = some (.rt r, env', s') := by
  show (match ex G cf st env s with
    | some (.nx, env', s') => exs G cf ss env' s'
    | r => r) = _
  rw [h]
/-- a draw: a number below m; the flow goes on -/
theorem draw_ok {fl : List D} (hf : Flw fl) (hm : 0 < m ∧ m < 1073741824) : ∃ r fl', (0 ≤ r ∧ r < m) ∧ Flw fl' ∧ R n 7 [.ref 0, .int m] (.lst fl :: rest) = some (.int r, .lst fl' :: rest) := by
  obtain ⟨a, b, c, d, cells, rfl, ha, hb, hc, hd, hl, hl2, hall⟩ := hf
  obtain ⟨a1, b1, c1, ⟨ha1, hb1, hc1⟩, h2⟩ := draw_s2 (n := n) (m := m) (a := a) (b := b) (c := c) (d := d + 1) (rest := rest) ⟨hl, hl2, hall⟩ ⟨ha, hb, hc, by omega⟩
  rw [R_eq (fn := w__law_draw) rfl rfl]
  show ∃ r fl', (0 ≤ r ∧ r < m) ∧ Flw fl' ∧ (match exs G (calls G Ps n) w__law_draw.body [some (.ref 0), some (.int m), none, none, none, none, none] (stF a b c d cells rest) with
    | some (.rt r, _, s') => fin false (stF a b c d cells rest) r s'
    | some (.nx, _, s') => fin false (stF a b c d cells rest) .non s'
    | _ => none) = some (.int r, .lst fl' :: rest)
  rw [b__law_draw, exs_nx draw_s0, exs_nx draw_s1, exs_nx h2]
  by_cases hp : 0 < b1
  · obtain ⟨b2, e, hb2, h3⟩ := draw_s3a (n := n) (c := c1) (d := d + 1) (cells := cells) (rest := rest) hm hp ha1
    rw [exs_rt h3]
    have hw : Flw (fl5 (a1 / m) b2 c1 (d + 1) cells) := ⟨_, _, _, _, cells, rfl, Int.ediv_nonneg ha1 (by omega), hb2, hc1, by omega, hl, hl2, hall⟩
    exact ⟨a1 % m, _, ⟨Int.emod_nonneg _ (by omega), Int.emod_lt_of_pos _ hm.1⟩, hw, fin_flow hw rfl⟩
  · obtain ⟨y, h4⟩ := draw_s4 (n := n) (m := m) (a := a1) (b := b1) (c := c1) (d := d + 1) (rest := rest) hl (by omega)
    obtain ⟨c2, hc2, h5⟩ := draw_s5 (n := n) (m := m) (a := a1) (b := b1) (c := c1) (d := d + 1) (rest := rest) (y := y) hl hc1
    obtain ⟨z, hz, h6⟩ := draw_s6 (n := n) (m := m) (a := a1) (b := b1) (c := c2) (d := d + 1) (cells := cells) (rest := rest) (y := y)
    obtain ⟨w, hw, h7⟩ := draw_s7 (n := n) (m := m) (a := a1) (b := b1) (c := c2) (d := d + 1) (cells := cells) (rest := rest) (y := y) hz
    obtain ⟨r, e, hr, h8⟩ := draw_s8 (n := n) (m := m) (a := a1) (b := b1) (c := c2) (d := d + 1) (cells := cells) (rest := rest) (y := y) (z := z) hm.1 hw
    rw [exs_nx (draw_s3b hp), exs_nx h4, exs_nx h5, exs_nx h6, exs_nx h7, exs_rt h8]
    have hw : Flw (fl5 a1 b1 c2 (d + 1) cells) := ⟨_, _, _, _, cells, rfl, ha1, hb1, hc2, by omega, hl, hl2, hall⟩
    exact ⟨r, _, hr, hw, fin_flow hw rfl⟩
end
end Kp

namespace Kp
open PySem
theorem fin_flow2 {fl fl' : List D} {rest ex : S} {r : D} (h : Flw fl') (hr : pur r = true) : fin false (.lst fl :: rest) r (.lst fl' :: (rest ++ ex)) = some (r, .lst fl' :: rest) := by
  unfold fin
  have hok : oldOk (.lst fl :: rest) (.lst fl' :: (rest ++ ex)) := fun j hj => by
    cases j with
    | zero => exact .inr ⟨.lst fl', rfl, low_fl h⟩
    | succ j =>
      refine .inl ?_
      show (rest ++ ex)[j]? = rest[j]?
      exact List.getElem?_append_left (by simpa using hj)
  rw [if_neg Bool.false_ne_true, shut_pur hr, if_pos ⟨low_pur _ r hr, hok⟩]
  simp
inductive IsC : D → Prop
  | grade (i j : Int) : IsC (.tup [.str "grade", .int i, .int j])
  | points (i : Int) : IsC (.tup [.str "points", .int i])
  | ao (w : Str) (hw : w = "and" ∨ w = "or") (ps : List D) (hl : ps.length ≤ 500) (h : ∀ p ∈ ps, IsC p) : IsC (.tup [.str w, .tup ps])
theorem okVs_of {ds : List D} (h : ∀ d ∈ ds, okV d = true) : okVs ds = true := by
  induction ds with
  | nil => rfl
  | cons d ds ih =>
    show (okV d && okVs ds) = true
    rw [h d (by simp), ih fun e he => h e (by simp [he])]
    rfl
theorem isC_ok {v : D} (h : IsC v) : okV v = true := by
  induction h with
  | grade i j => rfl
  | points i => rfl
  | ao w hw ps hl h ih =>
    show (decide (2 ≤ 1000) && (true && ((decide (ps.length ≤ 1000) && okVs ps) && true))) = true
    rw [okVs_of ih, decide_eq_true (show ps.length ≤ 1000 by omega)]
    rfl
theorem pick_ok {n : Nat} {fl ds : List D} {rest : S} (hf : Flw fl) (hl : 0 < ds.length ∧ ds.length ≤ 2000) (hp : purs ds = true) : ∃ x fl', x ∈ ds ∧ Flw fl' ∧ R (n + 1) 8 [.ref 0, .lst ds] (.lst fl :: rest) = some (x, .lst fl' :: rest) := by
  obtain ⟨r, fl', hr, hf', hd⟩ := draw_ok (n := n) (m := ds.length) (rest := rest) hf (by omega)
  have h1 : r.toNat < ds.length := by omega
  refine ⟨ds[r.toNat], fl', List.getElem_mem h1, hf', ?_⟩
  rw [R_eq (fn := w__law_pick) rfl rfl]
  have hx : pur ds[r.toNat] = true := by
    have : ∀ (l : List D), purs l = true → ∀ x ∈ l, pur x = true := fun l => by
      induction l with
      | nil => intro _ x hx; cases hx
      | cons a l ih =>
        intro h x hx
        have h : (pur a && purs l) = true := h
        rw [Bool.and_eq_true] at h
        rcases List.mem_cons.mp hx with rfl | hx
        · exact h.1
        · exact ih h.2 x hx
    exact this ds hp _ (List.getElem_mem h1)
  simp [w__law_pick, exs, ex, ev, ↓ev_call, evs, evt, evo, evi, evand, evor, bd_some, bd_none, truD, cmpD, biD, seqOf, lstOf, eqD, view_int, view_bl, view_str, view_non, view_tup, view_lst, deq, deqs, dep_int, dep_bl, dep_str, dep_non, pur_int, pur_bl, pur_str, pur_non, pur_tup, purs_nil, purs_cons, asgT, asgTs, idxD, ixD, isiD, binD, iopD, fin_int, fin_bl, fin_str, fin_non, hd, hr, h1, fin_flow hf' hx]
end Kp

namespace Kp
open PySem
theorem same_ok {n : Nat} {a b : Bool} {s : S} : R (n + 1) 9 [.tup [.bl a, .bl a], .tup [.bl a, .bl a]] s = some (.bl true, s) := by
  have h : ∀ s, R n 9 [.bl a, .bl a] s = some (.bl true, s) := fun s => by
    rw [R_eq (fn := w__law_same) rfl rfl]
    cases a <;> simp [w__law_same, exs, ex, ev, ↓ev_call, evs, evt, evo, evi, evand, evor, bd_some, bd_none, truD, cmpD, biD, seqOf, lstOf, eqD, view_int, view_bl, view_str, view_non, view_tup, view_lst, deq, deqs, dep_int, dep_bl, dep_str, dep_non, pur_int, pur_bl, pur_str, pur_non, pur_tup, purs_nil, purs_cons, asgT, asgTs, idxD, ixD, isiD, binD, iopD, fin_int, fin_bl, fin_str, fin_non]
  rw [R_eq (fn := w__law_same) rfl rfl]
  have e : (List.range 2) = [0, 1] := rfl
  simp [w__law_same, exs, ex, ev, ↓ev_call, evs, evt, evo, evi, evand, evor, bd_some, bd_none, truD, cmpD, biD, seqOf, lstOf, eqD, view_int, view_bl, view_str, view_non, view_tup, view_lst, deq, deqs, dep_int, dep_bl, dep_str, dep_non, pur_int, pur_bl, pur_str, pur_non, pur_tup, purs_nil, purs_cons, asgT, asgTs, idxD, ixD, isiD, binD, iopD, fin_int, fin_bl, fin_str, fin_non, h, forL, lkOk, e]
/-- a loop that goes on in the same way -/
theorem deep_loop {n : Nat} {l : D} {s : S} : ∀ (ks : List Nat) (v : D) (k : Option D), IsC v → ∃ v' k', IsC v' ∧ forL (fun d env s => match asgT (.nm 2) d env with
        | some env' => exs G (calls G Ps n) k__law_deep_1 env' s
        | none => none) [] (ks.map fun (i : Nat) => D.int (i : Int)) [some l, some v, k] s = some (.nx, [some l, some v', k'], s)
  | [], v, k, hv => ⟨v, k, hv, rfl⟩
  | i :: ks, v, k, hv => by
    have step : ∃ w : Str, (w = "and" ∨ w = "or") ∧ exs G (calls G Ps n) k__law_deep_1 [some l, some v, some (.int (i : Int))] s = some (.nx, [some l, some (.tup [.str w, .tup [v]]), some (.int (i : Int))], s) := by
      have t1 : ∀ (x : D) s, newT [x] s = some (.tup [x], s) := fun x s => rfl
      have t2 : ∀ (x y : D) s, newT [x, y] s = some (.tup [x, y], s) := fun x y s => rfl
      have h0 : 0 ≤ (i : Int) % 2 := by omega
      rcases Int.emod_two_eq (i : Int) with e | e
      · refine ⟨"and", .inl rfl, ?_⟩
        simp [k__law_deep_1, exs, ex, ev, ↓ev_call, evs, evt, evo, evi, evand, evor, bd_some, bd_none, truD, cmpD, biD, seqOf, lstOf, eqD, view_int, view_bl, view_str, view_non, view_tup, view_lst, deq, deqs, dep_int, dep_bl, dep_str, dep_non, pur_int, pur_bl, pur_str, pur_non, pur_tup, purs_nil, purs_cons, asgT, asgTs, idxD, ixD, isiD, binD, iopD, fin_int, fin_bl, fin_str, fin_non, e, t1, t2]
      · refine ⟨"or", .inr rfl, ?_⟩
        simp [k__law_deep_1, exs, ex, ev, ↓ev_call, evs, evt, evo, evi, evand, evor, bd_some, bd_none, truD, cmpD, biD, seqOf, lstOf, eqD, view_int, view_bl, view_str, view_non, view_tup, view_lst, deq, deqs, dep_int, dep_bl, dep_str, dep_non, pur_int, pur_bl, pur_str, pur_non, pur_tup, purs_nil, purs_cons, asgT, asgTs, idxD, ixD, isiD, binD, iopD, fin_int, fin_bl, fin_str, fin_non, e, t1, t2]
    obtain ⟨w, hw, hs⟩ := step
    obtain ⟨v', k', hv', hr⟩ := deep_loop (n := n) (l := l) (s := s) ks (.tup [.str w, .tup [v]]) (some (.int (i : Int))) (.ao w hw [v] (by simp) (by simpa using hv))
    refine ⟨v', k', hv', ?_⟩
    rw [← hr]
    show (match exs G (calls G Ps n) k__law_deep_1 [some l, some v, some (.int (i : Int))] s with
      | some (.nx, env', s') => if lkOk [] s' then forL _ [] (ks.map fun (i : Nat) => D.int (i : Int)) env' s' else none
      | some (.ct, env', s') => if lkOk [] s' then forL _ [] (ks.map fun (i : Nat) => D.int (i : Int)) env' s' else none
      | some (.bk, env', s') => some (.nx, env', s')
      | some (.rt v, env', s') => some (.rt v, env', s')
      | none => none) = _
    rw [hs]
    rfl
theorem deep_ok {n : Nat} {l : Int} {s : S} (hl : 1 ≤ l ∧ l ≤ 100) : ∃ v, IsC v ∧ R n 14 [.int l] s = some (v, s) := by
  obtain ⟨v', k', hv, hr⟩ := deep_loop (n := n) (l := .int l) (s := s) (List.range (l - 1).toNat) (.tup [.str "points", .int 3]) none (.points 3)
  refine ⟨v', hv, ?_⟩
  rw [R_eq (fn := w__law_deep) rfl rfl]
  have t2 : ∀ (x y : D) s, newT [x, y] s = some (.tup [x, y], s) := fun x y s => rfl
  have hb : -(2 ^ 62) ≤ l - 1 ∧ l - 1 < 2 ^ 62 := by omega
  have h1 : ex G (calls G Ps n) v__law_deep_1 [some (.int l), some (.tup [.str "points", .int 3]), none] s = some (.nx, [some (.int l), some v', k'], s) := by
    show (match evi G (calls G Ps n) (.rng (.bin .sub (.var 0) (.con (.int 1)))) [some (.int l), some (.tup [.str "points", .int 3]), none] s with
      | some ((ds, lk), s1) => forL (fun d env s => match asgT (.nm 2) d env with
        | some env' => exs G (calls G Ps n) k__law_deep_1 env' s
        | none => none) lk ds [some (.int l), some (.tup [.str "points", .int 3]), none] s1
      | none => none) = _
    have e : evi G (calls G Ps n) (.rng (.bin .sub (.var 0) (.con (.int 1)))) [some (.int l), some (.tup [.str "points", .int 3]), none] s = some (((List.range (l - 1).toNat).map fun (i : Nat) => D.int (i : Int), []), s) := by
      show (if -(2 ^ 62) ≤ l - 1 ∧ l - 1 < 2 ^ 62 then some (((List.range (l - 1).toNat).map fun (i : Nat) => D.int (i : Int), ([] : Lk)), s) else none) = _
      rw [if_pos hb]
    rw [e]
    exact hr
  have h0 : ex G (calls G Ps n) v__law_deep_0 [some (.int l), none, none] s = some (.nx, [some (.int l), some (.tup [.str "points", .int 3]), none], s) := by
    simp [v__law_deep_0, exs, ex, ev, ↓ev_call, evs, evt, evo, evi, evand, evor, bd_some, bd_none, truD, cmpD, biD, seqOf, lstOf, eqD, view_int, view_bl, view_str, view_non, view_tup, view_lst, deq, deqs, dep_int, dep_bl, dep_str, dep_non, pur_int, pur_bl, pur_str, pur_non, pur_tup, purs_nil, purs_cons, asgT, asgTs, idxD, ixD, isiD, binD, iopD, fin_int, fin_bl, fin_str, fin_non, t2]
  show (match exs G (calls G Ps n) w__law_deep.body [some (.int l), none, none] s with
    | some (.rt r, _, s') => fin false s r s'
    | some (.nx, _, s') => fin false s .non s'
    | _ => none) = some (v', s)
  rw [b__law_deep, exs_nx h0, exs_nx h1]
  show fin false s v' s = _
  exact fin_same (pur_ok v' (isC_ok hv))
end Kp

namespace Kp
open PySem
theorem cut_len {xs : List D} {lo hi : Option Int} : (cutD xs lo hi).length ≤ xs.length := by
  unfold cutD
  rw [List.length_take, List.length_drop]
  omega
theorem cut_mem {xs : List D} {lo hi : Option Int} {x : D} (h : x ∈ cutD xs lo hi) : x ∈ xs := List.mem_of_mem_drop (List.mem_of_mem_take h)
def list1 : List D := [.tup [.str "grade", .int 8, .int 0], .tup [.str "grade", .int 0, .int 7], .tup [.str "grade", .int (-1), .int 0], .tup [.str "grade", .bl true, .int 0], .tup [.str "grade", .int 0, .bl false], .tup [.str "grade", .int 0], .tup [.str "grade", .int 0, .int 0, .int 0], .tup [.str "points", .int 481]]
def list2 (v : D) : List D := [.tup [.str "points", .int (-1)], .tup [.str "points", .bl true], .tup [.str "points", .non], .tup [.str "points"], .tup [.str "not", .tup [v]], .tup [.str "and", v], .tup [.str "or", .tup [v, .non]], .tup [.str "and"], .tup [.str "and", .tup [], .tup []]]
def list3 (vs : List D) : List D := [.tup [.str "And", .tup []], .tup [.tup vs], .tup (vs ++ [.tup []]), .non, .str "and", .tup [], .int 0, .tup [.str "points", .int 480], .tup [.str "grade", .int 7, .int 6], .tup [.str "or", .tup [.tup vs]], .tup [.str "and", .non]]
theorem okVs_app {xs ys : List D} : okVs (xs ++ ys) = (okVs xs && okVs ys) := by
  induction xs with
  | nil => rfl
  | cons x xs ih =>
    show (okV x && okVs (xs ++ ys)) = ((okV x && okVs xs) && okVs ys)
    rw [ih, Bool.and_assoc]
section
variable {n : Nat} {vs : List D} {fl : List D} {rest : S}
theorem bent_1 {v d : D} {a : Option D} {s : S} : ex G (calls G Ps n) v__law_bent_1 [some (.ref 0), some v, some d, a, none] s = some (.nx, [some (.ref 0), some v, some d, a, some (.lst list1)], s) := by
  simp [v__law_bent_1, exs, ex, ev, ↓ev_call, evs, evt, evo, evi, evand, evor, bd_some, bd_none, truD, cmpD, biD, seqOf, lstOf, eqD, view_int, view_bl, view_str, view_non, view_tup, view_lst, deq, deqs, dep_int, dep_bl, dep_str, dep_non, pur_int, pur_bl, pur_str, pur_non, pur_tup, purs_nil, purs_cons, asgT, asgTs, idxD, ixD, isiD, binD, iopD, fin_int, fin_bl, fin_str, fin_non, newT, newL, lim, list1]
theorem bent_2 {v d : D} {a : Option D} {s : S} : ex G (calls G Ps n) v__law_bent_2 [some (.ref 0), some v, some d, a, some (.lst list1)] s = some (.nx, [some (.ref 0), some v, some d, a, some (.lst (list1 ++ list2 v))], s) := by
  simp [v__law_bent_2, exs, ex, ev, ↓ev_call, evs, evt, evo, evi, evand, evor, bd_some, bd_none, truD, cmpD, biD, seqOf, lstOf, eqD, view_int, view_bl, view_str, view_non, view_tup, view_lst, deq, deqs, dep_int, dep_bl, dep_str, dep_non, pur_int, pur_bl, pur_str, pur_non, pur_tup, purs_nil, purs_cons, asgT, asgTs, idxD, ixD, isiD, binD, iopD, fin_int, fin_bl, fin_str, fin_non, newT, newL, lim, list1, list2]
theorem bent_3 {d : D} {a : Option D} (hv : okV (.tup vs) = true) (hl : vs.length ≤ 10) (hf : Flw fl) : ∃ x fl', okV x = true ∧ Flw fl' ∧ ex G (calls G Ps (n + 2)) v__law_bent_3 [some (.ref 0), some (.tup vs), some d, a, some (.lst (list1 ++ list2 (.tup vs)))] (.lst fl :: rest) =
    some (.rt x, [some (.ref 0), some (.tup vs), some d, a, some (.lst (list1 ++ list2 (.tup vs)))], .lst fl' :: rest) := by
  have ok : okVs (list1 ++ list2 (.tup vs) ++ list3 vs) = true := by
    have h2 := (okV_tup hv).2
    have h3 : okVs (vs ++ [.tup []]) = true := by rw [okVs_app, h2]; rfl
    have h4 : okV (.tup (vs ++ [.tup []])) = true := by
      show (decide ((vs ++ [D.tup []]).length ≤ 1000) && okVs (vs ++ [.tup []])) = true
      rw [h3, decide_eq_true (by simp; omega)]
      rfl
    rw [okVs_app, okVs_app]
    simp [list1, list2, list3, okVs, hv, h4]
    simp [okV, okVs]
    exact ⟨by omega, h2⟩
  have hlen : (list1 ++ list2 (.tup vs) ++ list3 vs).length = 28 := by simp [list1, list2, list3]
  obtain ⟨x, fl', hx, hf', hp⟩ := pick_ok (n := n) (fl := fl) (ds := list1 ++ list2 (.tup vs) ++ list3 vs) (rest := rest) hf (by rw [hlen]; decide) (purs_ok _ ok)
  refine ⟨x, fl', okVs_mem ok x hx, hf', ?_⟩
  have hl2 : vs.length ≤ 99999 := by omega
  have hl3 : vs.length + 1 ≤ lim := by show vs.length + 1 ≤ 100000; omega
  have nl : ∀ s, newL false (list3 vs) s = some (.lst (list3 vs), s) := fun s => newL_ok (by simp [list3])
  have nl2 : ∀ s, newL false (list1 ++ list2 (.tup vs) ++ list3 vs) s = some (.lst (list1 ++ list2 (.tup vs) ++ list3 vs), s) := fun s => newL_ok (by rw [hlen]; decide)
  have t0 : ∀ s, newT [] s = some (.tup [], s) := fun s => rfl
  have t1 : ∀ (x : D) s, newT [x] s = some (.tup [x], s) := fun x s => rfl
  have t2 : ∀ (x y : D) s, newT [x, y] s = some (.tup [x, y], s) := fun x y s => rfl
  have t3 : ∀ (x y z : D) s, newT [x, y, z] s = some (.tup [x, y, z], s) := fun x y z s => rfl
  have e3 : ∀ s, evs G (calls G Ps (n + 2)) (.cons (.var 0) (.cons (.bin (.add false) (.var 4) (.lst false (.cons (.tup (.cons (.con (.str "And")) (.cons (.tup .nil) .nil))) (.cons (.tup (.cons (.var 1) .nil)) (.cons (.bin (.add false) (.var 1) (.tup (.cons (.tup .nil) .nil))) (.cons (.con .non) (.cons (.con (.str "and")) (.cons (.tup .nil) (.cons (.con (.int 0)) (.cons (.tup (.cons (.con (.str "points")) (.cons (.con (.int 480)) .nil))) (.cons (.tup (.cons (.con (.str "grade")) (.cons (.con (.int 7)) (.cons (.con (.int 6)) .nil)))) (.cons (.tup (.cons (.con (.str "or")) (.cons (.tup (.cons (.var 1) .nil)) .nil))) (.cons (.tup (.cons (.con (.str "and")) (.cons (.con .non) .nil))) .nil))))))))))))) .nil)) [some (.ref 0), some (.tup vs), some d, a, some (.lst (list1 ++ list2 (.tup vs)))] s = some ([.ref 0, .lst (list1 ++ list2 (.tup vs) ++ list3 vs)], s) := fun s => by
    unfold list3 at nl nl2
    simp [-List.append_assoc, -List.cons_append, exs, ex, ev, ↓ev_call, evs, evt, evo, evi, evand, evor, bd_some, bd_none, truD, cmpD, biD, seqOf, lstOf, eqD, view_int, view_bl, view_str, view_non, view_tup, view_lst, deq, deqs, dep_int, dep_bl, dep_str, dep_non, pur_int, pur_bl, pur_str, pur_non, pur_tup, purs_nil, purs_cons, asgT, asgTs, idxD, ixD, isiD, binD, iopD, fin_int, fin_bl, fin_str, fin_non, t0, t1, t2, t3, hl3, nl, nl2, list3]
  show (match (bd (evs G (calls G Ps (n + 2)) _ [some (.ref 0), some (.tup vs), some d, a, some (.lst (list1 ++ list2 (.tup vs)))] (.lst fl :: rest)) fun vs s1 => R (n + 1) 8 vs s1) with
    | some (x, s1) => some (Fl.rt x, [some (D.ref 0), some (D.tup vs), some d, a, some (D.lst (list1 ++ list2 (.tup vs)))], s1)
    | none => none) = _
  rw [e3, bd_some, hp]
end
end Kp

namespace Kp
open PySem
section
variable {n : Nat} {fl : List D} {rest : S}
theorem deq_ii {a b : Int} : deq (.int a) (.int b) = (a == b) := rfl
theorem deq_tt {a b : List D} : deq (.tup a) (.tup b) = deqs a b := rfl
theorem deq_ss {a b : Str} : deq (.str a) (.str b) = (a == b) := rfl
theorem deq_bb {a b : Bool} : deq (.bl a) (.bl b) = (a == b) := rfl
theorem deqs_nn : deqs [] [] = true := rfl
theorem isAO_w {w : Str} (h : w = "and" ∨ w = "or") : isAO (.str w) = true := by
  rcases h with rfl | rfl <;> simp [isAO]
/-- the way down into a part -/
theorem bent_0 {d : Nat} {v : D} (ih : ∀ p fl, IsC p → Flw fl → ∃ x fl', okV x = true ∧ Flw fl' ∧ (0 < d → R n 15 [.ref 0, p, .int ((d : Int) - 1)] (.lst fl :: rest) = some (x, .lst fl' :: rest))) (hv : IsC v) (hf : Flw fl) :
    (∃ fl', Flw fl' ∧ ex G (calls G Ps (n + 1)) v__law_bent_0 [some (.ref 0), some v, some (.int d), none, none] (.lst fl :: rest) = some (.nx, [some (.ref 0), some v, some (.int d), none, none], .lst fl' :: rest)) ∨
    ∃ x e fl', okV x = true ∧ Flw fl' ∧ ex G (calls G Ps (n + 1)) v__law_bent_0 [some (.ref 0), some v, some (.int d), none, none] (.lst fl :: rest) = some (.rt x, e, .lst fl' :: rest) := by
  cases hv with
  | grade i j =>
    have a1 : ∀ s, inD s (.str "grade") (.tup [.str "and", .str "or"]) = some false := fun s => by rw [in_and rfl (Nat.zero_le _)]; rfl
    refine .inl ⟨fl, hf, ?_⟩
    have t2 : ∀ (x y : D) s, newT [x, y] s = some (.tup [x, y], s) := fun x y s => rfl
    simp [v__law_bent_0, exs, ex, ev, ↓ev_call, evs, evt, evo, evi, evand, evor, bd_some, bd_none, truD, cmpD, biD, seqOf, lstOf, eqD, view_int, view_bl, view_str, view_non, view_tup, view_lst, deq_ii, deq_tt, deq_ss, deq_bb, dep_int, dep_bl, dep_str, dep_non, pur_int, pur_bl, pur_str, pur_non, pur_tup, purs_nil, purs_cons, asgT, asgTs, idxD, ixD, isiD, binD, iopD, fin_int, fin_bl, fin_str, fin_non, t2, a1]
  | points i =>
    have a1 : ∀ s, inD s (.str "points") (.tup [.str "and", .str "or"]) = some false := fun s => by rw [in_and rfl (Nat.zero_le _)]; rfl
    refine .inl ⟨fl, hf, ?_⟩
    have t2 : ∀ (x y : D) s, newT [x, y] s = some (.tup [x, y], s) := fun x y s => rfl
    simp [v__law_bent_0, exs, ex, ev, ↓ev_call, evs, evt, evo, evi, evand, evor, bd_some, bd_none, truD, cmpD, biD, seqOf, lstOf, eqD, view_int, view_bl, view_str, view_non, view_tup, view_lst, deq_ii, deq_tt, deq_ss, deq_bb, dep_int, dep_bl, dep_str, dep_non, pur_int, pur_bl, pur_str, pur_non, pur_tup, purs_nil, purs_cons, asgT, asgTs, idxD, ixD, isiD, binD, iopD, fin_int, fin_bl, fin_str, fin_non, t2, a1]
  | ao w hw ps hl hps =>
    have a1 : ∀ s, inD s (.str w) (.tup [.str "and", .str "or"]) = some true := fun s => by rw [in_and rfl (Nat.zero_le _), isAO_w hw]
    have t0 : ∀ s, newT [] s = some (.tup [], s) := fun s => rfl
    have t1 : ∀ (x : D) s, newT [x] s = some (.tup [x], s) := fun x s => rfl
    have t2 : ∀ (x y : D) s, newT [x, y] s = some (.tup [x, y], s) := fun x y s => rfl
    have okp : okVs ps = true := okVs_of fun p hp => isC_ok (hps p hp)
    have pp := purs_ok ps okp
    have hdep : dep (.tup []) = 1 := rfl
    have hmin : ∀ a, min a 1 ≤ 64 := fun a => Nat.le_trans (Nat.min_le_right _ _) (by decide)
    have dq : deqs ps [] = ps.isEmpty := by cases ps <;> rfl
    by_cases he : ps = []
    · subst he
      exact .inl ⟨fl, hf, by simp [v__law_bent_0, exs, ex, ev, ↓ev_call, evs, evt, evo, evi, evand, evor, bd_some, bd_none, truD, cmpD, biD, seqOf, lstOf, eqD, view_int, view_bl, view_str, view_non, view_tup, view_lst, deq_ii, deq_tt, deq_ss, deq_bb, dep_int, dep_bl, dep_str, dep_non, pur_int, pur_bl, pur_str, pur_non, pur_tup, purs_nil, purs_cons, asgT, asgTs, idxD, ixD, isiD, binD, iopD, fin_int, fin_bl, fin_str, fin_non, t0, t1, t2, a1, hdep, hmin, deqs_nn]⟩
    · have he' : ps.isEmpty = false := by cases ps with
        | nil => exact absurd rfl he
        | cons _ _ => rfl
      by_cases hd : 0 < d
      · have hdI : (0 : Int) < d := by omega
        obtain ⟨r1, fl1, hr1, hf1, h1⟩ := draw_ok (n := n) (m := 4) (rest := rest) hf (by decide)
        by_cases hr : 0 < r1
        · have hlen : 0 < ps.length := List.length_pos_iff.mpr he
          obtain ⟨r2, fl2, hr2, hf2, h2⟩ := draw_ok (n := n) (m := ps.length) (rest := rest) hf1 (by omega)
          obtain ⟨r3, fl3, hr3, hf3, h3⟩ := draw_ok (n := n) (m := ps.length) (rest := rest) hf2 (by omega)
          have fin : ∀ r : Int, 0 ≤ r ∧ r < ps.length → ((if r3 > r2 then r3 else r2) = r) → ∃ x e fl', okV x = true ∧ Flw fl' ∧ ex G (calls G Ps (n + 1)) v__law_bent_0 [some (.ref 0), some (.tup [.str w, .tup ps]), some (.int d), none, none] (.lst fl :: rest) = some (.rt x, e, .lst fl' :: rest) := fun r hrr hmax => by
            have hn : r.toNat < ps.length := by omega
            obtain ⟨x, fl4, hx, hf4, h4⟩ := ih ps[r.toNat] fl3 (hps _ (List.getElem_mem hn)) hf3
            have h4 := h4 hd
            have c1 := cut_len (xs := ps) (lo := none) (hi := some r)
            have c2 := cut_len (xs := ps) (lo := some (r + 1)) (hi := none)
            have l1 : (cutD ps none (some r)).length + 1 ≤ lim := by show _ ≤ 100000; omega
            have l2 : (cutD ps none (some r)).length + 1 + (cutD ps (some (r + 1)) none).length ≤ lim := by show _ ≤ 100000; omega
            refine ⟨.tup [.str w, .tup (cutD ps none (some r) ++ [x] ++ cutD ps (some (r + 1)) none)], [some (.ref 0), some (.tup [.str w, .tup ps]), some (.int d), some (.int r), none], fl4, ?_, hf4, ?_⟩
            · have o1 : okVs (cutD ps none (some r)) = true := okVs_of fun y hy => okVs_mem okp y (cut_mem hy)
              have o2 : okVs (cutD ps (some (r + 1)) none) = true := okVs_of fun y hy => okVs_mem okp y (cut_mem hy)
              have o3 : okVs (cutD ps none (some r) ++ [x] ++ cutD ps (some (r + 1)) none) = true := by
                rw [okVs_app, okVs_app, o1, o2]
                show ((true && (okV x && true)) && true) = true
                rw [hx]
                rfl
              have o4 : (cutD ps none (some r) ++ [x] ++ cutD ps (some (r + 1)) none).length ≤ 1000 + 1 := by
                rw [List.length_append, List.length_append, List.length_singleton]
                omega
              have o5 : (cutD ps none (some r) ++ [x] ++ cutD ps (some (r + 1)) none).length ≤ 1000 := by
                rw [List.length_append, List.length_append, List.length_singleton]
                have e1 : (cutD ps none (some r)).length ≤ r.toNat := by
                  unfold cutD
                  rw [List.length_take]
                  have : sIxD ps.length ps.length (some r) ≤ r.toNat := by
                    show (if r < 0 then (r + ps.length).toNat else min r.toNat ps.length) ≤ r.toNat
                    rw [if_neg (by omega)]
                    exact Nat.min_le_left _ _
                  omega
                omega
              show (decide (2 ≤ 1000) && (true && ((decide (_ ≤ 1000) && okVs _) && true))) = true
              rw [o3, decide_eq_true o5]
              rfl
            · have hmax' : (if r2 < r3 then r3 else r2) = r := hmax
              simp [-List.append_assoc, v__law_bent_0, exs, ex, ev, ↓ev_call, evs, evt, evo, evi, evand, evor, bd_some, bd_none, truD, cmpD, biD, seqOf, lstOf, eqD, view_int, view_bl, view_str, view_non, view_tup, view_lst, deq_ii, deq_tt, deq_ss, deq_bb, dep_int, dep_bl, dep_str, dep_non, pur_int, pur_bl, pur_str, pur_non, pur_tup, purs_nil, purs_cons, asgT, asgTs, idxD, ixD, isiD, binD, iopD, fin_int, fin_bl, fin_str, fin_non, t0, t1, t2, a1, hdep, hmin, pp, dq, he', hdI, hd, h1, hr, h2, h3, hmax', slcD, hrr, hn, h4, l1, l2]
          by_cases hgt : r3 > r2
          · exact .inr (fin r3 hr3 (if_pos hgt))
          · exact .inr (fin r2 hr2 (if_neg hgt))
        · exact .inl ⟨fl1, hf1, by simp [v__law_bent_0, exs, ex, ev, ↓ev_call, evs, evt, evo, evi, evand, evor, bd_some, bd_none, truD, cmpD, biD, seqOf, lstOf, eqD, view_int, view_bl, view_str, view_non, view_tup, view_lst, deq_ii, deq_tt, deq_ss, deq_bb, dep_int, dep_bl, dep_str, dep_non, pur_int, pur_bl, pur_str, pur_non, pur_tup, purs_nil, purs_cons, asgT, asgTs, idxD, ixD, isiD, binD, iopD, fin_int, fin_bl, fin_str, fin_non, t0, t1, t2, a1, hdep, hmin, pp, dq, he', hdI, hd, h1, hr]⟩
      · have hd0 : d = 0 := by omega
        subst hd0
        exact .inl ⟨fl, hf, by simp [v__law_bent_0, exs, ex, ev, ↓ev_call, evs, evt, evo, evi, evand, evor, bd_some, bd_none, truD, cmpD, biD, seqOf, lstOf, eqD, view_int, view_bl, view_str, view_non, view_tup, view_lst, deq_ii, deq_tt, deq_ss, deq_bb, dep_int, dep_bl, dep_str, dep_non, pur_int, pur_bl, pur_str, pur_non, pur_tup, purs_nil, purs_cons, asgT, asgTs, idxD, ixD, isiD, binD, iopD, fin_int, fin_bl, fin_str, fin_non, t0, t1, t2, a1, hdep, hmin, pp, dq, he']⟩
end
end Kp

namespace Kp
open PySem
theorem isC_tup {v : D} (h : IsC v) : ∃ vs, v = .tup vs ∧ vs.length ≤ 10 := by
  cases h with
  | grade i j => exact ⟨_, rfl, by simp⟩
  | points i => exact ⟨_, rfl, by simp⟩
  | ao w hw ps hl h => exact ⟨_, rfl, by simp⟩
theorem bent_ok : ∀ (d n : Nat) (v : D) (fl : List D) (rest : S), IsC v → Flw fl → d + 3 ≤ n → ∃ x fl', okV x = true ∧ Flw fl' ∧ R n 15 [.ref 0, v, .int d] (.lst fl :: rest) = some (x, .lst fl' :: rest) := by
  intro d
  induction d with
  | zero =>
    intro n v fl rest hv hf hn
    obtain ⟨m, rfl⟩ : ∃ m, n = m + 2 := ⟨n - 2, by omega⟩
    have ih : ∀ p fl, IsC p → Flw fl → ∃ x fl', okV x = true ∧ Flw fl' ∧ (0 < 0 → R (m + 1) 15 [.ref 0, p, .int (((0 : Nat) : Int) - 1)] (.lst fl :: rest) = some (x, .lst fl' :: rest)) := fun p fl _ h => ⟨.non, fl, rfl, h, fun h => absurd h (by decide)⟩
    have h0 := bent_0 (n := m + 1) (d := 0) (rest := rest) ih hv hf
    obtain ⟨vs, rfl, hl⟩ := isC_tup hv
    rw [R_eq (fn := w__law_bent) rfl rfl]
    show ∃ x fl', okV x = true ∧ Flw fl' ∧ (match exs G (calls G Ps (m + 2)) w__law_bent.body [some (.ref 0), some (.tup vs), some (.int ((0 : Nat) : Int)), none, none] (.lst fl :: rest) with
      | some (.rt r, _, s') => fin false (.lst fl :: rest) r s'
      | some (.nx, _, s') => fin false (.lst fl :: rest) .non s'
      | _ => none) = some (x, .lst fl' :: rest)
    rw [b__law_bent]
    rcases h0 with ⟨fl', hf', h0⟩ | ⟨x, e, fl', hx, hf', h0⟩
    · obtain ⟨x, fl2, hx, hf2, h3⟩ := bent_3 (n := m) (a := none) (d := .int ((0 : Nat) : Int)) (rest := rest) (isC_ok hv) hl hf'
      rw [exs_nx h0, exs_nx bent_1, exs_nx bent_2, exs_rt h3]
      exact ⟨x, fl2, hx, hf2, fin_flow hf2 (pur_ok x hx)⟩
    · rw [exs_rt h0]
      exact ⟨x, fl', hx, hf', fin_flow hf' (pur_ok x hx)⟩
  | succ d ihd =>
    intro n v fl rest hv hf hn
    obtain ⟨m, rfl⟩ : ∃ m, n = m + 2 := ⟨n - 2, by omega⟩
    have ih : ∀ p fl, IsC p → Flw fl → ∃ x fl', okV x = true ∧ Flw fl' ∧ (0 < d + 1 → R (m + 1) 15 [.ref 0, p, .int (((d + 1 : Nat) : Int) - 1)] (.lst fl :: rest) = some (x, .lst fl' :: rest)) := fun p fl hp h => by
      obtain ⟨x, fl', hx, hf', h1⟩ := ihd (m + 1) p fl rest hp h (by omega)
      refine ⟨x, fl', hx, hf', fun _ => ?_⟩
      have e : ((d + 1 : Nat) : Int) - 1 = (d : Int) := by omega
      rw [e]
      exact h1
    have h0 := bent_0 (n := m + 1) (d := d + 1) (rest := rest) ih hv hf
    obtain ⟨vs, rfl, hl⟩ := isC_tup hv
    rw [R_eq (fn := w__law_bent) rfl rfl]
    show ∃ x fl', okV x = true ∧ Flw fl' ∧ (match exs G (calls G Ps (m + 2)) w__law_bent.body [some (.ref 0), some (.tup vs), some (.int ((d + 1 : Nat) : Int)), none, none] (.lst fl :: rest) with
      | some (.rt r, _, s') => fin false (.lst fl :: rest) r s'
      | some (.nx, _, s') => fin false (.lst fl :: rest) .non s'
      | _ => none) = some (x, .lst fl' :: rest)
    rw [b__law_bent]
    rcases h0 with ⟨fl', hf', h0⟩ | ⟨x, e, fl', hx, hf', h0⟩
    · obtain ⟨x, fl2, hx, hf2, h3⟩ := bent_3 (n := m) (a := none) (d := .int ((d + 1 : Nat) : Int)) (rest := rest) (isC_ok hv) hl hf'
      rw [exs_nx h0, exs_nx bent_1, exs_nx bent_2, exs_rt h3]
      exact ⟨x, fl2, hx, hf2, fin_flow hf2 (pur_ok x hx)⟩
    · rw [exs_rt h0]
      exact ⟨x, fl', hx, hf', fin_flow hf' (pur_ok x hx)⟩
end Kp

namespace Kp
open PySem
theorem app_st {f : List D} {rest : S} {ps : List D} {x : D} (h : ps.length < lim) : mtD .append (.ref (rest.length + 1)) [x] (.lst f :: (rest ++ [.lst ps])) = some (.non, .lst f :: (rest ++ [.lst (ps ++ [x])])) := by
  have e : (C.lst f :: (rest ++ [C.lst ps]))[rest.length + 1]? = some (.lst ps) := by
    rw [List.getElem?_cons_succ, List.getElem?_append_right (Nat.le_refl _), Nat.sub_self]
    rfl
  unfold mtD
  dsimp only
  rw [e]
  dsimp only
  rw [if_pos h]
  refine congrArg some (congrArg (Prod.mk D.non) ?_)
  rw [List.set_cons_succ, List.set_append_right _ _ (Nat.le_refl _), Nat.sub_self]
  rfl
theorem seq_st {f : List D} {rest : S} {ps : List D} : seqOf (.lst f :: (rest ++ [.lst ps])) (.ref (rest.length + 1)) = some ps := by
  have e : (C.lst f :: (rest ++ [C.lst ps]))[rest.length + 1]? = some (.lst ps) := by
    rw [List.getElem?_cons_succ, List.getElem?_append_right (Nat.le_refl _), Nat.sub_self]
    rfl
  show (match (C.lst f :: (rest ++ [C.lst ps]))[rest.length + 1]? with
    | some (.lst ds) => some ds
    | _ => none) = some ps
  rw [e]
section
variable {n : Nat} {many lv : Int} {w : D} {rest : S}
abbrev envS (many lv : Int) (w : D) (left : Int) (k : Nat) (t z : Option D) : List (Option D) := [some (.ref 0), some (.int many), some (.int lv), some w, some (.int left), some (.ref k), t, z]
/-- one turn -/
theorem shaped_turn {fl : List D} {ps : List D} {left : Int} {t z : Option D} (hf : Flw fl) (hl : 0 < left ∧ left < 1000) (hp : ps.length < 1000)
    (ih : ∀ size fl rest', 1 ≤ size → size ≤ left → Flw fl → ∃ x fl', IsC x ∧ Flw fl' ∧ R (n + 1) 13 [.ref 0, .int size, .int (lv - 1)] (.lst fl :: rest') = some (x, .lst fl' :: rest')) :
    ∃ size x fl' z', (1 ≤ size ∧ size ≤ left) ∧ IsC x ∧ Flw fl' ∧ exs G (calls G Ps (n + 2)) k__law_shaped_2 (envS many lv w left (rest.length + 1) t z) (.lst fl :: (rest ++ [.lst ps])) =
      some (.nx, envS many lv w (left - size) (rest.length + 1) t z', .lst fl' :: (rest ++ [.lst (ps ++ [x])])) := by
  have hz : (left == 0) = false := beq_eq_false_iff_ne.mpr (by omega)
  have hlim : ps.length < lim := by show ps.length < 100000; omega
  by_cases h3 : lv < 3
  · obtain ⟨r1, fl1, hr1, hf1, h1⟩ := draw_ok (n := n + 1) (m := 4) (rest := rest ++ [.lst ps]) hf (by decide)
    by_cases h0 : r1 = 0
    · subst h0
      obtain ⟨x, fl2, hx, hf2, h2⟩ := ih 1 fl1 (rest ++ [.lst ps]) (by omega) (by omega) hf1
      refine ⟨1, x, fl2, some (.int 1), by omega, hx, hf2, ?_⟩
      simp [k__law_shaped_2, envS, exs, ex, ev, ↓ev_call, evs, evt, evo, evi, evand, evor, bd_some, bd_none, truD, cmpD, biD, seqOf, lstOf, eqD, view_int, view_bl, view_str, view_non, view_tup, view_lst, deq, deqs, dep_int, dep_bl, dep_str, dep_non, pur_int, pur_bl, pur_str, pur_non, pur_tup, purs_nil, purs_cons, asgT, asgTs, idxD, ixD, isiD, binD, iopD, fin_int, fin_bl, fin_str, fin_non, alk_int, dlt_int, hz, h3, h1, h2, app_st hlim]
    · have h0' : (r1 == 0) = false := beq_eq_false_iff_ne.mpr h0
      obtain ⟨r2, fl2, hr2, hf2, h2⟩ := draw_ok (n := n + 1) (m := left) (rest := rest ++ [.lst ps]) hf1 (by omega)
      obtain ⟨x, fl3, hx, hf3, h4⟩ := ih 1 fl2 (rest ++ [.lst ps]) (by omega) (by omega) hf2
      refine ⟨1, x, fl3, some (.int 1), by omega, hx, hf3, ?_⟩
      simp [k__law_shaped_2, envS, exs, ex, ev, ↓ev_call, evs, evt, evo, evi, evand, evor, bd_some, bd_none, truD, cmpD, biD, seqOf, lstOf, eqD, view_int, view_bl, view_str, view_non, view_tup, view_lst, deq, deqs, dep_int, dep_bl, dep_str, dep_non, pur_int, pur_bl, pur_str, pur_non, pur_tup, purs_nil, purs_cons, asgT, asgTs, idxD, ixD, isiD, binD, iopD, fin_int, fin_bl, fin_str, fin_non, alk_int, dlt_int, hz, h3, h1, h0', h2, h4, app_st hlim]
  · obtain ⟨r2, fl2, hr2, hf2, h2⟩ := draw_ok (n := n + 1) (m := left) (rest := rest ++ [.lst ps]) hf (by omega)
    obtain ⟨x, fl3, hx, hf3, h4⟩ := ih (1 + r2) fl2 (rest ++ [.lst ps]) (by omega) (by omega) hf2
    refine ⟨1 + r2, x, fl3, some (.int (1 + r2)), by omega, hx, hf3, ?_⟩
    simp [k__law_shaped_2, envS, exs, ex, ev, ↓ev_call, evs, evt, evo, evi, evand, evor, bd_some, bd_none, truD, cmpD, biD, seqOf, lstOf, eqD, view_int, view_bl, view_str, view_non, view_tup, view_lst, deq, deqs, dep_int, dep_bl, dep_str, dep_non, pur_int, pur_bl, pur_str, pur_non, pur_tup, purs_nil, purs_cons, asgT, asgTs, idxD, ixD, isiD, binD, iopD, fin_int, fin_bl, fin_str, fin_non, alk_int, dlt_int, hz, h3, h2, h4, app_st hlim]
theorem shaped_stop {s : S} {k : Nat} {t z : Option D} : exs G (calls G Ps n) k__law_shaped_2 (envS many lv w 0 k t z) s = some (.bk, envS many lv w 0 k t z, s) := by
  simp [k__law_shaped_2, envS, exs, ex, ev, ↓ev_call, evs, evt, evo, evi, evand, evor, bd_some, bd_none, truD, cmpD, biD, seqOf, lstOf, eqD, view_int, view_bl, view_str, view_non, view_tup, view_lst, deq, deqs, dep_int, dep_bl, dep_str, dep_non, pur_int, pur_bl, pur_str, pur_non, pur_tup, purs_nil, purs_cons, asgT, asgTs, idxD, ixD, isiD, binD, iopD, fin_int, fin_bl, fin_str, fin_non]
theorem shaped_loop : ∀ (ks : List Nat) (left : Int) (ps fl : List D) (t z : Option D), Flw fl → 0 ≤ left → left < 1000 → ps.length + ks.length < 1000 → (∀ p ∈ ps, IsC p) →
    (∀ size fl rest', 1 ≤ size → size ≤ left → Flw fl → ∃ x fl', IsC x ∧ Flw fl' ∧ R (n + 1) 13 [.ref 0, .int size, .int (lv - 1)] (.lst fl :: rest') = some (x, .lst fl' :: rest')) →
    ∃ left' ps' fl' t' z', Flw fl' ∧ ps'.length ≤ ps.length + ks.length ∧ (∀ p ∈ ps', IsC p) ∧ forL (fun d env s => match asgT (.nm 6) d env with
        | some env' => exs G (calls G Ps (n + 2)) k__law_shaped_2 env' s
        | none => none) [] (ks.map fun (i : Nat) => D.int (i : Int)) (envS many lv w left (rest.length + 1) t z) (.lst fl :: (rest ++ [.lst ps])) =
      some (.nx, envS many lv w left' (rest.length + 1) t' z', .lst fl' :: (rest ++ [.lst ps']))
  | [], left, ps, fl, t, z, hf, h0, h1, hlen, hps, ih => ⟨left, ps, fl, t, z, hf, by simp, hps, rfl⟩
  | i :: ks, left, ps, fl, t, z, hf, h0, h1, hlen, hps, ih => by
    have un : ∀ r, exs G (calls G Ps (n + 2)) k__law_shaped_2 (envS many lv w left (rest.length + 1) (some (.int (i : Int))) z) (.lst fl :: (rest ++ [.lst ps])) = r → forL (fun d env s => match asgT (.nm 6) d env with
        | some env' => exs G (calls G Ps (n + 2)) k__law_shaped_2 env' s
        | none => none) [] ((i :: ks).map fun (i : Nat) => D.int (i : Int)) (envS many lv w left (rest.length + 1) t z) (.lst fl :: (rest ++ [.lst ps])) = (match r with
      | some (.nx, env', s') => if lkOk [] s' then forL (fun d env s => match asgT (.nm 6) d env with
        | some env' => exs G (calls G Ps (n + 2)) k__law_shaped_2 env' s
        | none => none) [] (ks.map fun (i : Nat) => D.int (i : Int)) env' s' else none
      | some (.ct, env', s') => if lkOk [] s' then forL (fun d env s => match asgT (.nm 6) d env with
        | some env' => exs G (calls G Ps (n + 2)) k__law_shaped_2 env' s
        | none => none) [] (ks.map fun (i : Nat) => D.int (i : Int)) env' s' else none
      | some (.bk, env', s') => some (.nx, env', s')
      | some (.rt v, env', s') => some (.rt v, env', s')
      | none => none) := fun r hr => by
      subst hr
      rfl
    by_cases hz : left = 0
    · subst hz
      refine ⟨0, ps, fl, some (.int (i : Int)), z, hf, by omega, hps, ?_⟩
      rw [un _ shaped_stop]
    · obtain ⟨size, x, fl2, z2, hs, hx, hf2, ht⟩ := shaped_turn (n := n) (many := many) (lv := lv) (w := w) (rest := rest) (ps := ps) (t := some (.int (i : Int))) (z := z) hf (by omega) (by simp at hlen; omega) ih
      obtain ⟨left', ps', fl', t', z', hf', hl', hp', hr⟩ := shaped_loop ks (left - size) (ps ++ [x]) fl2 (some (.int (i : Int))) z2 hf2 (by omega) (by omega) (by simp at hlen ⊢; omega) (fun p hp => by
        rcases List.mem_append.mp hp with h | h
        · exact hps p h
        · rw [List.mem_singleton.mp h]; exact hx) (fun sz fl r h1 h2 h3 => ih sz fl r h1 (by omega) h3)
      refine ⟨left', ps', fl', t', z', hf', by simp at hl' ⊢; omega, hp', ?_⟩
      rw [un _ ht]
      exact hr
end
end Kp

namespace Kp
open PySem
def six : List D := [.tup [.str "grade", .int 7, .int 6], .tup [.str "points", .int 480], .tup [.str "and", .tup []], .tup [.str "or", .tup []], .tup [.str "grade", .int 0, .int 0], .tup [.str "points", .int 0]]
theorem six_c {x : D} (h : x ∈ six) : IsC x := by
  unfold six at h
  simp only [List.mem_cons, List.not_mem_nil, or_false] at h
  rcases h with rfl | rfl | rfl | rfl | rfl | rfl
  · exact .grade _ _
  · exact .points _
  · exact .ao _ (.inl rfl) [] (by simp) (by simp)
  · exact .ao _ (.inr rfl) [] (by simp) (by simp)
  · exact .grade _ _
  · exact .points _
theorem shaped_ok : ∀ (k n : Nat) (many lv : Int) (fl : List D) (rest : S), 1 ≤ many → many ≤ 30 → many ≤ k → k + 4 ≤ n → Flw fl → ∃ x fl', IsC x ∧ Flw fl' ∧ R n 13 [.ref 0, .int many, .int lv] (.lst fl :: rest) = some (x, .lst fl' :: rest) := by
  intro k
  induction k with
  | zero => intro n many lv fl rest h1 _ h2; omega
  | succ k ihk =>
    intro n many lv fl rest h1 h30 hk hn hf
    obtain ⟨m, rfl⟩ : ∃ m, n = m + 2 := ⟨n - 2, by omega⟩
    rw [R_eq (fn := w__law_shaped) rfl rfl]
    show ∃ x fl', IsC x ∧ Flw fl' ∧ (match exs G (calls G Ps (m + 2)) w__law_shaped.body [some (.ref 0), some (.int many), some (.int lv), none, none, none, none, none] (.lst fl :: rest) with
      | some (.rt r, _, s') => fin false (.lst fl :: rest) r s'
      | some (.nx, _, s') => fin false (.lst fl :: rest) .non s'
      | _ => none) = some (x, .lst fl' :: rest)
    rw [b__law_shaped]
    have t0 : ∀ s, newT [] s = some (.tup [], s) := fun s => rfl
    have t2 : ∀ (x y : D) s, newT [x, y] s = some (.tup [x, y], s) := fun x y s => rfl
    have t3 : ∀ (x y z : D) s, newT [x, y, z] s = some (.tup [x, y, z], s) := fun x y z s => rfl
    by_cases hm : many = 1
    · subst hm
      obtain ⟨x, fl1, hx, hf1, hp⟩ := pick_ok (n := m) (fl := fl) (ds := six) (rest := rest) hf (by decide) (by decide)
      have nl : ∀ s, newL false six s = some (.lst six, s) := fun s => newL_ok (by decide)
      have h0 : ex G (calls G Ps (m + 2)) v__law_shaped_0 [some (.ref 0), some (.int 1), some (.int lv), none, none, none, none, none] (.lst fl :: rest) = some (.rt x, [some (.ref 0), some (.int 1), some (.int lv), none, none, none, none, none], .lst fl1 :: rest) := by
        unfold six at nl hp
        simp [v__law_shaped_0, exs, ex, ev, ↓ev_call, evs, evt, evo, evi, evand, evor, bd_some, bd_none, truD, cmpD, biD, seqOf, lstOf, eqD, view_int, view_bl, view_str, view_non, view_tup, view_lst, deq, deqs, dep_int, dep_bl, dep_str, dep_non, pur_int, pur_bl, pur_str, pur_non, pur_tup, purs_nil, purs_cons, asgT, asgTs, idxD, ixD, isiD, binD, iopD, fin_int, fin_bl, fin_str, fin_non, t0, t2, t3, nl, hp]
      rw [exs_rt h0]
      exact ⟨x, fl1, six_c hx, hf1, fin_flow hf1 (pur_ok x (isC_ok (six_c hx)))⟩
    · have hm' : (many == 1) = false := beq_eq_false_iff_ne.mpr hm
      have h0 : ex G (calls G Ps (m + 2)) v__law_shaped_0 [some (.ref 0), some (.int many), some (.int lv), none, none, none, none, none] (.lst fl :: rest) = some (.nx, [some (.ref 0), some (.int many), some (.int lv), none, none, none, none, none], .lst fl :: rest) := by
        simp [v__law_shaped_0, exs, ex, ev, ↓ev_call, evs, evt, evo, evi, evand, evor, bd_some, bd_none, truD, cmpD, biD, seqOf, lstOf, eqD, view_int, view_bl, view_str, view_non, view_tup, view_lst, deq, deqs, dep_int, dep_bl, dep_str, dep_non, pur_int, pur_bl, pur_str, pur_non, pur_tup, purs_nil, purs_cons, asgT, asgTs, idxD, ixD, isiD, binD, iopD, fin_int, fin_bl, fin_str, fin_non, hm']
      obtain ⟨w, fl1, hw, hf1, hp⟩ := pick_ok (n := m) (fl := fl) (ds := [.str "and", .str "or"]) (rest := rest) hf (by decide) (by decide)
      have nl : ∀ s, newL false [D.str "and", D.str "or"] s = some (.lst [.str "and", .str "or"], s) := fun s => newL_ok (by decide)
      have nt : ∀ s : S, newL true [] s = some (.ref s.length, s ++ [.lst []]) := fun s => rfl
      have h1' : ex G (calls G Ps (m + 2)) v__law_shaped_1 [some (.ref 0), some (.int many), some (.int lv), none, none, none, none, none] (.lst fl :: rest) = some (.nx, envS many lv w (many - 1) (rest.length + 1) none none, .lst fl1 :: (rest ++ [.lst []])) := by
        simp [v__law_shaped_1, exs, ex, ev, ↓ev_call, evs, evt, evo, evi, evand, evor, bd_some, bd_none, truD, cmpD, biD, seqOf, lstOf, eqD, view_int, view_bl, view_str, view_non, view_tup, view_lst, deq, deqs, dep_int, dep_bl, dep_str, dep_non, pur_int, pur_bl, pur_str, pur_non, pur_tup, purs_nil, purs_cons, asgT, asgTs, idxD, ixD, isiD, binD, iopD, fin_int, fin_bl, fin_str, fin_non, nl, nt, hp, setAll, envS]
      have ih : ∀ size fl rest', 1 ≤ size → size ≤ many - 1 → Flw fl → ∃ x fl', IsC x ∧ Flw fl' ∧ R (m + 1) 13 [.ref 0, .int size, .int (lv - 1)] (.lst fl :: rest') = some (x, .lst fl' :: rest') :=
        fun size fl rest' a b c => ihk (m + 1) size (lv - 1) fl rest' a (by omega) (by omega) (by omega) c
      obtain ⟨left', ps', fl2, t', z', hf2, hl2, hps, hr⟩ := shaped_loop (n := m) (many := many) (lv := lv) (w := w) (rest := rest) (List.range many.toNat) (many - 1) [] fl1 none none hf1 (by omega) (by omega) (by simp; omega) (by simp) ih
      have h2 : ex G (calls G Ps (m + 2)) v__law_shaped_2 (envS many lv w (many - 1) (rest.length + 1) none none) (.lst fl1 :: (rest ++ [.lst []])) = some (.nx, envS many lv w left' (rest.length + 1) t' z', .lst fl2 :: (rest ++ [.lst ps'])) := by
        show (match evi G (calls G Ps (m + 2)) (.rng (.var 1)) (envS many lv w (many - 1) (rest.length + 1) none none) (.lst fl1 :: (rest ++ [.lst []])) with
          | some ((ds, lk), s1) => forL (fun d env s => match asgT (.nm 6) d env with
            | some env' => exs G (calls G Ps (m + 2)) k__law_shaped_2 env' s
            | none => none) lk ds (envS many lv w (many - 1) (rest.length + 1) none none) s1
          | none => none) = _
        have e : evi G (calls G Ps (m + 2)) (.rng (.var 1)) (envS many lv w (many - 1) (rest.length + 1) none none) (.lst fl1 :: (rest ++ [.lst []])) = some (((List.range many.toNat).map fun (i : Nat) => D.int (i : Int), []), .lst fl1 :: (rest ++ [.lst []])) := by
          show (if -(2 ^ 62) ≤ many ∧ many < 2 ^ 62 then some (((List.range many.toNat).map fun (i : Nat) => D.int (i : Int), ([] : Lk)), C.lst fl1 :: (rest ++ [.lst []])) else none) = _
          rw [if_pos (by omega)]
        rw [e]
        exact hr
      have hlen : ps'.length ≤ 30 := by
        have := hl2
        simp at this
        omega
      have h3 : ex G (calls G Ps (m + 2)) v__law_shaped_3 (envS many lv w left' (rest.length + 1) t' z') (.lst fl2 :: (rest ++ [.lst ps'])) = some (.rt (.tup [w, .tup ps']), envS many lv w left' (rest.length + 1) t' z', .lst fl2 :: (rest ++ [.lst ps'])) := by
        have nt2 : ∀ s, newT ps' s = some (.tup ps', s) := fun s => if_pos (show ps'.length ≤ 100000 by omega)
        have bt : biD .tuple false [.ref (rest.length + 1)] (.lst fl2 :: (rest ++ [.lst ps'])) = some (.tup ps', .lst fl2 :: (rest ++ [.lst ps'])) := by
          show (seqOf (.lst fl2 :: (rest ++ [.lst ps'])) (.ref (rest.length + 1))).bind (fun xs => newT xs (.lst fl2 :: (rest ++ [.lst ps']))) = _
          rw [seq_st]
          exact nt2 _
        show (match (bd (bd (some (w, C.lst fl2 :: (rest ++ [.lst ps']))) fun x s1 => bd (bd (bd (bd (some (D.ref (rest.length + 1), s1)) fun x s1 => some ([x], s1)) (biD .tuple false)) fun x s1 => some ([x], s1)) fun xs s2 => some (x :: xs, s2)) newT) with
          | some (x, s1) => some (Fl.rt x, envS many lv w left' (rest.length + 1) t' z', s1)
          | none => none) = _
        rw [bd_some, bd_some, bd_some, bt]
        rfl
      rw [exs_nx h0, exs_nx h1', exs_nx h2, exs_rt h3]
      have hc : IsC (.tup [w, .tup ps']) := by
        simp only [List.mem_cons, List.not_mem_nil, or_false] at hw
        rcases hw with rfl | rfl
        · exact .ao _ (.inl rfl) ps' (by omega) hps
        · exact .ao _ (.inr rfl) ps' (by omega) hps
      exact ⟨_, fl2, hc, hf2, fin_flow2 hf2 (pur_ok _ (isC_ok hc))⟩
end Kp

namespace Kp
open PySem
theorem compL_st {step : D → S → Option (Option D × S)} {P : D → Prop} : ∀ (ds : List D) (fl : List D), (∀ d ∈ ds, ∀ fl, Flw fl → ∃ x fl', P x ∧ Flw fl' ∧ step d [.lst fl] = some (some x, [.lst fl'])) → Flw fl →
    ∃ xs fl', xs.length = ds.length ∧ (∀ x ∈ xs, P x) ∧ Flw fl' ∧ compL step [] ds [.lst fl] = some (xs, [.lst fl'])
  | [], fl, _, hf => ⟨[], fl, rfl, by simp, hf, rfl⟩
  | d :: ds, fl, h, hf => by
    obtain ⟨x, fl1, hx, hf1, h1⟩ := h d (by simp) fl hf
    obtain ⟨xs, fl2, hl, hxs, hf2, h2⟩ := compL_st (step := step) (P := P) ds fl1 (fun e he => h e (by simp [he])) hf1
    refine ⟨x :: xs, fl2, by simp [hl], fun y hy => ?_, hf2, ?_⟩
    · rcases List.mem_cons.mp hy with rfl | hy
      · exact hx
      · exact hxs y hy
    · unfold compL
      rw [h1, bd_some, if_pos (show lkOk [] [C.lst fl1] = true from rfl), h2]
      rfl
theorem cut_all {ns : List Int} (h : ns.length ≤ 63) : cutD (ns.map D.int) none (some 63) = ns.map D.int := by
  show ((ns.map D.int).drop 0).take ((if (63 : Int) < 0 then ((63 : Int) + (ns.map D.int).length).toNat else min (63 : Int).toNat (ns.map D.int).length) - 0) = _
  rw [if_neg (by decide), List.drop_zero]
  refine List.take_of_length_le ?_
  rw [List.length_map]
  show ns.length ≤ min 63 ns.length - 0
  omega
def absI (i : Int) : Int := if i < 0 then -i else i
theorem fin_keep {s s' : S} {d : D} : fin true s d s' = some (d, s') := by
  unfold fin
  rw [if_pos rfl]
theorem flow_ok {n : Nat} {ns : List Int} (h : ns.length ≤ 63) : ∃ fl, Flw fl ∧ R n 6 [.rol (ns.map D.int)] [] = some (.ref 0, [.lst fl]) := by
  have hc := fun s : S => compL_map (step := fun d' s' => bd (evt G (calls G Ps n) .nil [some (.rol (ns.map D.int)), some d'] s') fun b' s2 => if b' then bd (ev G (calls G Ps n) (.bi .abs false (.cons (.bi .int false (.cons (.var 1) .nil)) .nil)) [some (.rol (ns.map D.int)), some d'] s2) fun x s3 => some (some x, s3) else some (none, s2)) (lk := []) (s := s) (f := fun p => match p with | .int i => .int (absI i) | _ => .non) rfl (ps := ns.map D.int) fun p hp => by
    obtain ⟨z, _, rfl⟩ := List.mem_map.mp hp
    simp [exs, ex, ev, ↓ev_call, evs, evt, evo, evi, evand, evor, bd_some, bd_none, truD, cmpD, biD, seqOf, lstOf, eqD, view_int, view_bl, view_str, view_non, view_tup, view_lst, deq, deqs, dep_int, dep_bl, dep_str, dep_non, pur_int, pur_bl, pur_str, pur_non, pur_tup, purs_nil, purs_cons, asgT, asgTs, idxD, ixD, isiD, binD, iopD, fin_int, fin_bl, fin_str, fin_non, absI]
  rw [List.map_map] at hc
  have e1 : List.map ((fun p => match p with | .int i => .int (absI i) | _ => .non : D → D) ∘ D.int) ns = (ns.map absI).map D.int := by
    rw [List.map_map]
    rfl
  rw [e1] at hc
  have c0 : ∀ s, newL false (cutD (ns.map D.int) none (some 63)) s = some (.lst (ns.map D.int), s) := fun s => by
    rw [cut_all h]
    exact newL_ok (by rw [List.length_map]; omega)
  have c1 : ∀ s, ev G (calls G Ps n) (.lc false [1] (.nm 1) (.seq (.slc false (.var 0) .none (.some (.con (.int 63))))) .nil (.bi .abs false (.cons (.bi .int false (.cons (.var 1) .nil)) .nil))) [some (.rol (ns.map D.int)), none] s = some (.lst ((ns.map absI).map D.int), s) := fun s => by
    show (bd (bd (newL false (cutD (ns.map D.int) none (some 63)) s) fun x s1 => (srcD s1 x).map fun p => ((p.2.1, p.2.2), s1)) fun p s1 => bd (compL _ p.2 p.1 s1) (newL false)) = _
    rw [c0]
    show bd (compL _ [] (ns.map D.int) s) (newL false) = _
    refine (congrArg (fun r => bd r (newL false)) (hc s)).trans ?_
    exact newL_ok (by simp; omega)
  have c2 : ∀ s, newL false ((ns.map absI).map D.int ++ [.int 7]) s = some (.lst ((ns.map absI ++ [7]).map D.int), s) := fun s => by
    rw [List.map_append]
    exact newL_ok (by simp; omega)
  have n7 : ∀ s, newL false [D.int 7] s = some (.lst [.int 7], s) := fun s => newL_ok (by simp)
  have n5 : ∀ (a b c d e : D) (s : S), newL true [a, b, c, d, e] s = some (.ref s.length, s ++ [.lst [a, b, c, d, e]]) := fun _ _ _ _ _ _ => rfl
  refine ⟨fl5 0 0 0 0 (ns.map absI ++ [7]), ⟨0, 0, 0, 0, ns.map absI ++ [7], rfl, by decide, by decide, by decide, by decide, by simp, by simp; omega, fun x hx => ?_⟩, ?_⟩
  · rcases List.mem_append.mp hx with hx | hx
    · obtain ⟨z, _, rfl⟩ := List.mem_map.mp hx
      unfold absI
      split <;> omega
    · rw [List.mem_singleton.mp hx]; decide
  · rw [R_eq (fn := w__law_flow) rfl rfl]
    simp [-List.map_map, -List.map_append, w__law_flow, exs, ex, ev, ↓ev_call, evs, evt, evo, evi, evand, evor, bd_some, bd_none, truD, cmpD, biD, seqOf, lstOf, eqD, view_int, view_bl, view_str, view_non, view_tup, view_lst, deq, deqs, dep_int, dep_bl, dep_str, dep_non, pur_int, pur_bl, pur_str, pur_non, pur_tup, purs_nil, purs_cons, asgT, asgTs, idxD, ixD, isiD, binD, iopD, fin_int, fin_bl, fin_str, fin_non, ↓c1, c2, n7, n5, fin_keep, fl5]
end Kp

namespace Kp
open PySem
theorem ev_callk {n f : Nat} {as ks : Es} {nms : List Str} {perm : List Nat} {env : Env} {s : S} : ev G (calls G Ps (n + 1)) (.callk f as ks nms perm) env s = bd (evs G (calls G Ps (n + 1)) as env s) fun vs s1 => bd (evs G (calls G Ps (n + 1)) ks env s1) fun ws s2 => (permD (vs ++ ws) perm).bind fun us => R n f us s2 := rfl
/-- one turn of the law's loop -/
theorem law_turn {n : Nat} (hn : 60 ≤ n) {a b c f g h : Option D} {v : D} {z : Option D} {s : S} (hv : okV v = true) : exs G (calls G Ps (n + 1)) k_law_3 [a, b, c, some v, z, f, g, h] s = some (.nx, [a, b, c, some v, some (.bl (condB v)), f, g, h], s) := by
  have g1 : ∀ s, R n 12 [v] s = some (.bl (condB v), s) := fun s => iscond_ok hv (by omega)
  have g2 : ∀ s, R n 5 [v] s = some (.bl (condB v), s) := fun s => check_ok hv (by omega)
  obtain ⟨m, rfl⟩ : ∃ m, n = m + 1 := ⟨n - 1, by omega⟩
  have g3 : ∀ s, R (m + 1) 9 [.tup [.bl (condB v), .bl (condB v)], .tup [.bl (condB v), .bl (condB v)]] s = some (.bl true, s) := fun s => same_ok (b := true)
  have t2 : ∀ (x y : D) s, newT [x, y] s = some (.tup [x, y], s) := fun x y s => rfl
  have pm : permD [v] [0] = some [v] := rfl
  simp [k_law_3, exs, ex, ev, ↓ev_call, evs, evt, evo, evi, evand, evor, bd_some, bd_none, truD, cmpD, biD, seqOf, lstOf, eqD, view_int, view_bl, view_str, view_non, view_tup, view_lst, deq_ii, deq_tt, deq_ss, deq_bb, dep_int, dep_bl, dep_str, dep_non, pur_int, pur_bl, pur_str, pur_non, pur_tup, purs_nil, purs_cons, asgT, asgTs, idxD, ixD, isiD, binD, iopD, fin_int, fin_bl, fin_str, fin_non, ↓ev_callk, pm, g1, g2, g3, t2]
theorem law_loop {n : Nat} (hn : 60 ≤ n) {a b c f g h : Option D} {s : S} : ∀ (vs : List D) (y z : Option D), okVs vs = true → ∃ y' z', forL (fun d env s => match asgT (.nm 3) d env with
        | some env' => exs G (calls G Ps (n + 1)) k_law_3 env' s
        | none => none) [] vs [a, b, c, y, z, f, g, h] s = some (.nx, [a, b, c, y', z', f, g, h], s)
  | [], y, z, _ => ⟨y, z, rfl⟩
  | v :: vs, y, z, hv => by
    have hv : (okV v && okVs vs) = true := hv
    rw [Bool.and_eq_true] at hv
    obtain ⟨y', z', hr⟩ := law_loop hn (a := a) (b := b) (c := c) (f := f) (g := g) (h := h) (s := s) vs (some v) (some (.bl (condB v))) hv.2
    refine ⟨y', z', ?_⟩
    rw [← hr]
    show (match exs G (calls G Ps (n + 1)) k_law_3 [a, b, c, some v, z, f, g, h] s with
      | some (.nx, env', s') => if lkOk [] s' then forL (fun d env s => match asgT (.nm 3) d env with
        | some env' => exs G (calls G Ps (n + 1)) k_law_3 env' s
        | none => none) [] vs env' s' else none
      | some (.ct, env', s') => if lkOk [] s' then forL (fun d env s => match asgT (.nm 3) d env with
        | some env' => exs G (calls G Ps (n + 1)) k_law_3 env' s
        | none => none) [] vs env' s' else none
      | some (.bk, env', s') => some (.nx, env', s')
      | some (.rt v, env', s') => some (.rt v, env', s')
      | none => none) = _
    rw [law_turn hn hv.1]
    rfl
end Kp

namespace Kp
open PySem
def lcA : E := .lc false [5] (.nm 5) (.seq (.tup (.cons (.con (.int 1)) (.cons (.con (.int 2)) (.cons (.con (.int 7)) (.cons (.con (.int 19)) (.cons (.con (.int 20)) (.cons (.con (.int 20)) (.cons (.con (.int 21)) (.cons (.con (.int 22)) .nil)))))))))) .nil (.call 13 (.cons (.var 1) (.cons (.var 5) (.cons (.con (.int 6)) .nil))))
def lcB : E := .lc false [6] (.nm 6) (.seq (.tup (.cons (.con (.int 1)) (.cons (.con (.int 5)) (.cons (.con (.int 6)) (.cons (.con (.int 7)) (.cons (.con (.int 12)) .nil))))))) .nil (.call 14 (.cons (.var 6) .nil))
def lcC : E := .lc false [7] (.nm 7) (.rng (.con (.int 24))) .nil (.call 15 (.cons (.var 1) (.cons (.call 8 (.cons (.var 1) (.cons (.var 2) .nil))) (.cons (.con (.int 9)) .nil))))
def lsA : List D := [.int 1, .int 2, .int 7, .int 19, .int 20, .int 20, .int 21, .int 22]
def lsB : List D := [.int 1, .int 5, .int 6, .int 7, .int 12]
section
variable {n : Nat} {sc : D} {c : Option D} {fl : List D}
theorem evA (hn : 60 ≤ n) (hf : Flw fl) : ∃ xs fl', xs.length = 8 ∧ (∀ x ∈ xs, IsC x) ∧ Flw fl' ∧ ev G (calls G Ps (n + 1)) lcA [some sc, some (.ref 0), none, none, none, none, none, none] [.lst fl] = some (.lst xs, [.lst fl']) := by
  obtain ⟨xs, fl', h1, h2, h3, h4⟩ := compL_st (P := IsC) (step := fun d' s' => bd (evt G (calls G Ps (n + 1)) .nil [some sc, some (.ref 0), none, none, none, some d', none, none] s') fun b' s2 => if b' then bd (ev G (calls G Ps (n + 1)) (.call 13 (.cons (.var 1) (.cons (.var 5) (.cons (.con (.int 6)) .nil)))) [some sc, some (.ref 0), none, none, none, some d', none, none] s2) fun x s3 => some (some x, s3) else some (none, s2)) lsA fl (fun d hd fl hf => by
    have key : ∀ i : Int, 1 ≤ i → i ≤ 30 → d = .int i → ∃ x fl', IsC x ∧ Flw fl' ∧ R n 13 [.ref 0, d, .int 6] [.lst fl] = some (x, [.lst fl']) := fun i h1 h2 e => by
      subst e
      exact shaped_ok 30 n i 6 fl [] h1 h2 h2 (by omega) hf
    have : ∃ x fl', IsC x ∧ Flw fl' ∧ R n 13 [.ref 0, d, .int 6] [.lst fl] = some (x, [.lst fl']) := by
      unfold lsA at hd
      simp only [List.mem_cons, List.not_mem_nil, or_false] at hd
      rcases hd with h | h | h | h | h | h | h | h <;> exact key _ (by decide) (by decide) h
    obtain ⟨x, fl', hx, hf', hr⟩ := this
    refine ⟨x, fl', hx, hf', ?_⟩
    simp [exs, ex, ev, ↓ev_call, evs, evt, evo, evi, evand, evor, bd_some, bd_none, truD, cmpD, biD, seqOf, lstOf, eqD, view_int, view_bl, view_str, view_non, view_tup, view_lst, deq_ii, deq_tt, deq_ss, deq_bb, dep_int, dep_bl, dep_str, dep_non, pur_int, pur_bl, pur_str, pur_non, pur_tup, purs_nil, purs_cons, asgT, asgTs, idxD, ixD, isiD, binD, iopD, fin_int, fin_bl, fin_str, fin_non, hr]) hf
  refine ⟨xs, fl', h1, h2, h3, ?_⟩
  show (bd (compL _ [] lsA [.lst fl]) (newL false)) = _
  refine (congrArg (fun r => bd r (newL false)) h4).trans ?_
  exact newL_ok (by rw [h1]; decide)
theorem evB (hf : Flw fl) : ∃ xs, xs.length = 5 ∧ (∀ x ∈ xs, IsC x) ∧ ev G (calls G Ps (n + 1)) lcB [some sc, some (.ref 0), none, none, none, none, none, none] [.lst fl] = some (.lst xs, [.lst fl]) := by
  obtain ⟨v1, c1, r1⟩ := deep_ok (n := n) (l := 1) (s := [.lst fl]) (by decide)
  obtain ⟨v2, c2, r2⟩ := deep_ok (n := n) (l := 5) (s := [.lst fl]) (by decide)
  obtain ⟨v3, c3, r3⟩ := deep_ok (n := n) (l := 6) (s := [.lst fl]) (by decide)
  obtain ⟨v4, c4, r4⟩ := deep_ok (n := n) (l := 7) (s := [.lst fl]) (by decide)
  obtain ⟨v5, c5, r5⟩ := deep_ok (n := n) (l := 12) (s := [.lst fl]) (by decide)
  refine ⟨[v1, v2, v3, v4, v5], rfl, fun x hx => ?_, ?_⟩
  · simp only [List.mem_cons, List.not_mem_nil, or_false] at hx
    rcases hx with rfl | rfl | rfl | rfl | rfl <;> assumption
  · have h : compL (fun d' s' => bd (evt G (calls G Ps (n + 1)) .nil [some sc, some (.ref 0), none, none, none, none, some d', none] s') fun b' s2 => if b' then bd (ev G (calls G Ps (n + 1)) (.call 14 (.cons (.var 6) .nil)) [some sc, some (.ref 0), none, none, none, none, some d', none] s2) fun x s3 => some (some x, s3) else some (none, s2)) [] lsB [.lst fl] = some ([v1, v2, v3, v4, v5], [.lst fl]) := by
      simp [compL, lsB, lkOk, exs, ex, ev, ↓ev_call, evs, evt, evo, evi, evand, evor, bd_some, bd_none, truD, cmpD, biD, seqOf, lstOf, eqD, view_int, view_bl, view_str, view_non, view_tup, view_lst, deq_ii, deq_tt, deq_ss, deq_bb, dep_int, dep_bl, dep_str, dep_non, pur_int, pur_bl, pur_str, pur_non, pur_tup, purs_nil, purs_cons, asgT, asgTs, idxD, ixD, isiD, binD, iopD, fin_int, fin_bl, fin_str, fin_non, r1, r2, r3, r4, r5]
    show (bd (compL _ [] lsB [.lst fl]) (newL false)) = _
    refine (congrArg (fun r => bd r (newL false)) h).trans ?_
    exact newL_ok (by simp)
theorem evC (hn : 60 ≤ n) {vs : List D} (hl : 0 < vs.length ∧ vs.length ≤ 100) (hv : ∀ v ∈ vs, IsC v) (hf : Flw fl) : ∃ xs fl', xs.length = 24 ∧ (∀ x ∈ xs, okV x = true) ∧ Flw fl' ∧ ev G (calls G Ps (n + 1)) lcC [some sc, some (.ref 0), some (.lst vs), none, none, none, none, none] [.lst fl] = some (.lst xs, [.lst fl']) := by
  obtain ⟨m, rfl⟩ : ∃ m, n = m + 1 := ⟨n - 1, by omega⟩
  obtain ⟨xs, fl', h1, h2, h3, h4⟩ := compL_st (P := fun x => okV x = true) (step := fun d' s' => bd (evt G (calls G Ps (m + 2)) .nil [some sc, some (.ref 0), some (.lst vs), none, none, none, none, some d'] s') fun b' s2 => if b' then bd (ev G (calls G Ps (m + 2)) (.call 15 (.cons (.var 1) (.cons (.call 8 (.cons (.var 1) (.cons (.var 2) .nil))) (.cons (.con (.int 9)) .nil)))) [some sc, some (.ref 0), some (.lst vs), none, none, none, none, some d'] s2) fun x s3 => some (some x, s3) else some (none, s2)) ((List.range 24).map fun (i : Nat) => D.int (i : Int)) fl (fun d hd fl hf => by
    obtain ⟨x, fl1, hx, hf1, hr1⟩ := pick_ok (n := m) (fl := fl) (ds := vs) (rest := []) hf (by omega) (purs_ok _ (okVs_of fun v h => isC_ok (hv v h)))
    obtain ⟨y, fl2, hy, hf2, hr2⟩ := bent_ok 9 (m + 1) x fl1 [] (hv x hx) hf1 (by omega)
    have hr2 : R (m + 1) 15 [.ref 0, x, .int 9] [.lst fl1] = some (y, [.lst fl2]) := hr2
    refine ⟨y, fl2, hy, hf2, ?_⟩
    simp [exs, ex, ev, ↓ev_call, evs, evt, evo, evi, evand, evor, bd_some, bd_none, truD, cmpD, biD, seqOf, lstOf, eqD, view_int, view_bl, view_str, view_non, view_tup, view_lst, deq_ii, deq_tt, deq_ss, deq_bb, dep_int, dep_bl, dep_str, dep_non, pur_int, pur_bl, pur_str, pur_non, pur_tup, purs_nil, purs_cons, asgT, asgTs, idxD, ixD, isiD, binD, iopD, fin_int, fin_bl, fin_str, fin_non, hr1, hr2]) hf
  refine ⟨xs, fl', by simpa using h1, h2, h3, ?_⟩
  show (bd (compL _ [] ((List.range 24).map fun (i : Nat) => D.int (i : Int)) [.lst fl]) (newL false)) = _
  refine (congrArg (fun r => bd r (newL false)) h4).trans ?_
  exact newL_ok (by rw [h1]; decide)
end
end Kp

namespace Kp
open PySem
def pt1 : D := .tup [.str "points", .int 1]
theorem isC_rep (k : Nat) (hk : k ≤ 500) : IsC (.tup [.str "and", .tup (List.replicate k pt1)]) :=
  .ao _ (.inl rfl) _ (by simpa using hk) fun p hp => by rw [List.eq_of_mem_replicate hp]; exact .points 1
theorem pure_law (ns : List Int) (hl : ns.length ≤ 63) : ∃ s', runF G Ps (calls G Ps 200) 16 [.rol (ns.map D.int)] [] = some (.bl true, s') := by
  show ∃ s', R 200 16 [.rol (ns.map D.int)] [] = some (.bl true, s')
  obtain ⟨fl, hf, hflow⟩ := flow_ok (n := 199) hl
  obtain ⟨xs, fl1, hx8, hxC, hf1, hA⟩ := evA (n := 199) (sc := .rol (ns.map D.int)) (by decide) hf
  obtain ⟨ys, hy5, hyC, hB⟩ := evB (n := 199) (sc := .rol (ns.map D.int)) hf1
  obtain ⟨u5, hu5, r5⟩ := deep_ok (n := 199) (l := 5) (s := [.lst fl1]) (by decide)
  obtain ⟨u6, hu6, r6⟩ := deep_ok (n := 199) (l := 6) (s := [.lst fl1]) (by decide)
  have nl1 : ∀ s, newL false (xs ++ ys) s = some (.lst (xs ++ ys), s) := fun s => newL_ok (by rw [List.length_append]; omega)
  let four : List D := [.tup [.str "and", .tup (List.replicate 19 pt1)], .tup [.str "and", .tup (List.replicate 20 pt1)], .tup [.str "or", .tup [u5, u5]], .tup [.str "or", .tup [u6]]]
  have hvC : ∀ v ∈ xs ++ ys ++ four, IsC v := fun v hv => by
    rcases List.mem_append.mp hv with hv | hv
    · rcases List.mem_append.mp hv with hv | hv
      · exact hxC v hv
      · exact hyC v hv
    · simp only [four, List.mem_cons, List.not_mem_nil, or_false] at hv
      rcases hv with rfl | rfl | rfl | rfl
      · exact isC_rep 19 (by decide)
      · exact isC_rep 20 (by decide)
      · exact .ao _ (.inr rfl) _ (by simp) (by simpa using hu5)
      · exact .ao _ (.inr rfl) _ (by simp) (by simpa using hu6)
  have hvl : (xs ++ ys ++ four).length = 17 := by simp [four]; omega
  have nl2 : ∀ s, newL false (xs ++ ys ++ four) s = some (.lst (xs ++ ys ++ four), s) := fun s => newL_ok (by omega)
  obtain ⟨zs, fl2, hz24, hzk, hf2, hC⟩ := evC (n := 199) (sc := .rol (ns.map D.int)) (vs := xs ++ ys ++ four) (by decide) (by omega) hvC hf1
  have nl3 : ∀ s, newL false (xs ++ ys ++ four ++ zs) s = some (.lst (xs ++ ys ++ four ++ zs), s) := fun s => newL_ok (by rw [List.length_append]; omega)
  have hall : okVs (xs ++ ys ++ four ++ zs) = true := okVs_of fun d hd => by
    rcases List.mem_append.mp hd with hd | hd
    · exact isC_ok (hvC d hd)
    · exact hzk d hd
  have s0 : ex G (calls G Ps 200) v_law_0 [some (.rol (ns.map D.int)), none, none, none, none, none, none, none] [] = some (.nx, [some (.rol (ns.map D.int)), some (.ref 0), none, none, none, none, none, none], [.lst fl]) := by
    show (match (bd (some ([D.rol (ns.map D.int)], ([] : S))) fun vs s1 => R 199 6 vs s1) with
      | some (x, s1) => (asgT (.nm 1) x [some (D.rol (ns.map D.int)), none, none, none, none, none, none, none]).map fun env' => (Fl.nx, env', s1)
      | none => none) = _
    rw [bd_some, hflow]
    rfl
  have s1 : ex G (calls G Ps 200) v_law_1 [some (.rol (ns.map D.int)), some (.ref 0), none, none, none, none, none, none] [.lst fl] = some (.nx, [some (.rol (ns.map D.int)), some (.ref 0), some (.lst (xs ++ ys)), none, none, none, none, none], [.lst fl1]) := by
    show (match (bd (ev G (calls G Ps 200) lcA [some (.rol (ns.map D.int)), some (.ref 0), none, none, none, none, none, none] [.lst fl]) fun x s1 => bd (ev G (calls G Ps 200) lcB [some (.rol (ns.map D.int)), some (.ref 0), none, none, none, none, none, none] s1) fun y s2 => binD (.add false) x y s2) with
      | some (x, s1) => (asgT (.nm 2) x [some (D.rol (ns.map D.int)), some (.ref 0), none, none, none, none, none, none]).map fun env' => (Fl.nx, env', s1)
      | none => none) = _
    rw [hA, bd_some, hB, bd_some]
    show (match newL false (xs ++ ys) [.lst fl1] with
      | some (x, s1) => (asgT (.nm 2) x [some (D.rol (ns.map D.int)), some (.ref 0), none, none, none, none, none, none]).map fun env' => (Fl.nx, env', s1)
      | none => none) = _
    rw [nl1]
    rfl
  have s2 : ex G (calls G Ps 200) v_law_2 [some (.rol (ns.map D.int)), some (.ref 0), some (.lst (xs ++ ys)), none, none, none, none, none] [.lst fl1] = some (.nx, [some (.rol (ns.map D.int)), some (.ref 0), some (.lst (xs ++ ys ++ four)), none, none, none, none, none], [.lst fl1]) := by
    have t1 : ∀ (x : D) s, newT [x] s = some (.tup [x], s) := fun x s => rfl
    have t2 : ∀ (x y : D) s, newT [x, y] s = some (.tup [x, y], s) := fun x y s => rfl
    have nl4 : ∀ s, newL false four s = some (.lst four, s) := fun s => newL_ok (by simp [four])
    have e19 : (List.replicate (19 : Int).toNat [pt1]).flatten = List.replicate 19 pt1 := rfl
    have e20 : (List.replicate (20 : Int).toNat [pt1]).flatten = List.replicate 20 pt1 := rfl
    show (match (bd (some (D.lst (xs ++ ys), [C.lst fl1])) fun x s1 => bd (bd (bd (ev G (calls G Ps 200) (.tup (.cons (.con (.str "and")) (.cons (.bin (.mul false) (.tup (.cons (.tup (.cons (.con (.str "points")) (.cons (.con (.int 1)) .nil))) .nil)) (.con (.int 19))) .nil))) [some (.rol (ns.map D.int)), some (.ref 0), some (.lst (xs ++ ys)), none, none, none, none, none] s1) fun x s1 => bd (bd (ev G (calls G Ps 200) (.tup (.cons (.con (.str "and")) (.cons (.bin (.mul false) (.tup (.cons (.tup (.cons (.con (.str "points")) (.cons (.con (.int 1)) .nil))) .nil)) (.con (.int 20))) .nil))) [some (.rol (ns.map D.int)), some (.ref 0), some (.lst (xs ++ ys)), none, none, none, none, none] s1) fun x s1 => bd (bd (ev G (calls G Ps 200) (.tup (.cons (.con (.str "or")) (.cons (.tup (.cons (.call 14 (.cons (.con (.int 5)) .nil)) (.cons (.call 14 (.cons (.con (.int 5)) .nil)) .nil))) .nil))) [some (.rol (ns.map D.int)), some (.ref 0), some (.lst (xs ++ ys)), none, none, none, none, none] s1) fun x s1 => bd (bd (ev G (calls G Ps 200) (.tup (.cons (.con (.str "or")) (.cons (.tup (.cons (.call 14 (.cons (.con (.int 6)) .nil)) .nil)) .nil))) [some (.rol (ns.map D.int)), some (.ref 0), some (.lst (xs ++ ys)), none, none, none, none, none] s1) fun x s1 => bd (some ([], s1)) fun xs s2 => some (x :: xs, s2)) fun xs s2 => some (x :: xs, s2)) fun xs s2 => some (x :: xs, s2)) fun xs s2 => some (x :: xs, s2)) (newL false)) fun y s2 => binD (.add false) x y s2) with
      | some (x, s1) => (asgT (.nm 2) x [some (D.rol (ns.map D.int)), some (.ref 0), some (.lst (xs ++ ys)), none, none, none, none, none]).map fun env' => (Fl.nx, env', s1)
      | none => none) = _
    have q1 : ev G (calls G Ps 200) (.tup (.cons (.con (.str "and")) (.cons (.bin (.mul false) (.tup (.cons (.tup (.cons (.con (.str "points")) (.cons (.con (.int 1)) .nil))) .nil)) (.con (.int 19))) .nil))) [some (.rol (ns.map D.int)), some (.ref 0), some (.lst (xs ++ ys)), none, none, none, none, none] [.lst fl1] = some (.tup [.str "and", .tup (List.replicate 19 pt1)], [.lst fl1]) := rfl
    have q2 : ev G (calls G Ps 200) (.tup (.cons (.con (.str "and")) (.cons (.bin (.mul false) (.tup (.cons (.tup (.cons (.con (.str "points")) (.cons (.con (.int 1)) .nil))) .nil)) (.con (.int 20))) .nil))) [some (.rol (ns.map D.int)), some (.ref 0), some (.lst (xs ++ ys)), none, none, none, none, none] [.lst fl1] = some (.tup [.str "and", .tup (List.replicate 20 pt1)], [.lst fl1]) := rfl
    have q3 : ev G (calls G Ps (199 + 1)) (.tup (.cons (.con (.str "or")) (.cons (.tup (.cons (.call 14 (.cons (.con (.int 5)) .nil)) (.cons (.call 14 (.cons (.con (.int 5)) .nil)) .nil))) .nil))) [some (.rol (ns.map D.int)), some (.ref 0), some (.lst (xs ++ ys)), none, none, none, none, none] [.lst fl1] = some (.tup [.str "or", .tup [u5, u5]], [.lst fl1]) := by
      simp [exs, ex, ev, ↓ev_call, evs, evt, evo, evi, evand, evor, bd_some, bd_none, truD, cmpD, biD, seqOf, lstOf, eqD, view_int, view_bl, view_str, view_non, view_tup, view_lst, deq_ii, deq_tt, deq_ss, deq_bb, dep_int, dep_bl, dep_str, dep_non, pur_int, pur_bl, pur_str, pur_non, pur_tup, purs_nil, purs_cons, asgT, asgTs, idxD, ixD, isiD, binD, iopD, fin_int, fin_bl, fin_str, fin_non, r5, t2]
    have q4 : ev G (calls G Ps (199 + 1)) (.tup (.cons (.con (.str "or")) (.cons (.tup (.cons (.call 14 (.cons (.con (.int 6)) .nil)) .nil)) .nil))) [some (.rol (ns.map D.int)), some (.ref 0), some (.lst (xs ++ ys)), none, none, none, none, none] [.lst fl1] = some (.tup [.str "or", .tup [u6]], [.lst fl1]) := by
      simp [exs, ex, ev, ↓ev_call, evs, evt, evo, evi, evand, evor, bd_some, bd_none, truD, cmpD, biD, seqOf, lstOf, eqD, view_int, view_bl, view_str, view_non, view_tup, view_lst, deq_ii, deq_tt, deq_ss, deq_bb, dep_int, dep_bl, dep_str, dep_non, pur_int, pur_bl, pur_str, pur_non, pur_tup, purs_nil, purs_cons, asgT, asgTs, idxD, ixD, isiD, binD, iopD, fin_int, fin_bl, fin_str, fin_non, r6, t1, t2]
    rw [bd_some, q1, bd_some, q2, bd_some, q3, bd_some, q4, bd_some]
    show (match bd (newL false four [.lst fl1]) (fun y s2 => binD (.add false) (.lst (xs ++ ys)) y s2) with
      | some (x, s1) => (asgT (.nm 2) x [some (D.rol (ns.map D.int)), some (.ref 0), some (.lst (xs ++ ys)), none, none, none, none, none]).map fun env' => (Fl.nx, env', s1)
      | none => none) = _
    rw [nl4, bd_some]
    show (match newL false (xs ++ ys ++ four) [.lst fl1] with
      | some (x, s1) => (asgT (.nm 2) x [some (D.rol (ns.map D.int)), some (.ref 0), some (.lst (xs ++ ys)), none, none, none, none, none]).map fun env' => (Fl.nx, env', s1)
      | none => none) = _
    rw [nl2]
    rfl
  obtain ⟨y', z', hloop⟩ := law_loop (n := 199) (by decide) (a := some (.rol (ns.map D.int))) (b := some (.ref 0)) (c := some (.lst (xs ++ ys ++ four))) (f := none) (g := none) (h := none) (s := [.lst fl2]) (xs ++ ys ++ four ++ zs) none none hall
  have s3 : ex G (calls G Ps 200) v_law_3 [some (.rol (ns.map D.int)), some (.ref 0), some (.lst (xs ++ ys ++ four)), none, none, none, none, none] [.lst fl1] = some (.nx, [some (.rol (ns.map D.int)), some (.ref 0), some (.lst (xs ++ ys ++ four)), y', z', none, none, none], [.lst fl2]) := by
    show (match (bd (bd (some (D.lst (xs ++ ys ++ four), [C.lst fl1])) fun x s1 => bd (ev G (calls G Ps 200) lcC [some (.rol (ns.map D.int)), some (.ref 0), some (.lst (xs ++ ys ++ four)), none, none, none, none, none] s1) fun y s2 => binD (.add false) x y s2) fun x s1 => (srcD s1 x).map fun p => ((p.2.1, p.2.2), s1)) with
      | some ((ds, lk), s1) => forL (fun d env s => match asgT (.nm 3) d env with
        | some env' => exs G (calls G Ps 200) k_law_3 env' s
        | none => none) lk ds [some (.rol (ns.map D.int)), some (.ref 0), some (.lst (xs ++ ys ++ four)), none, none, none, none, none] s1
      | none => none) = _
    rw [bd_some, hC, bd_some]
    show (match (bd (newL false (xs ++ ys ++ four ++ zs) [.lst fl2]) fun x s1 => (srcD s1 x).map fun p => ((p.2.1, p.2.2), s1)) with
      | some ((ds, lk), s1) => forL (fun d env s => match asgT (.nm 3) d env with
        | some env' => exs G (calls G Ps 200) k_law_3 env' s
        | none => none) lk ds [some (.rol (ns.map D.int)), some (.ref 0), some (.lst (xs ++ ys ++ four)), none, none, none, none, none] s1
      | none => none) = _
    rw [nl3]
    exact hloop
  refine ⟨[], ?_⟩
  rw [R_eq (fn := w_law) rfl rfl]
  show (match exs G (calls G Ps 200) w_law.body [some (.rol (ns.map D.int)), none, none, none, none, none, none, none] [] with
    | some (.rt r, _, s') => fin false [] r s'
    | some (.nx, _, s') => fin false [] .non s'
    | _ => none) = _
  rw [b_law, exs_nx s0, exs_nx s1, exs_nx s2, exs_nx s3]
  show fin false [] (.bl true) [.lst fl2] = _
  unfold fin
  rw [if_neg Bool.false_ne_true, if_pos ⟨rfl, fun j hj => absurd hj (Nat.not_lt_zero _)⟩]
  rfl
end Kp

namespace Kp
open PySem PySem.Spec PyProof.Rows L2
theorem walk {l : PySem.W.OpenLaw} {q : Program} {loose : List Str} {XP : (Str → Option Value) → Heap → Prop} {YP : World → Heap → Prop} {d : DefRec} {K : Params → PySem.W.Frag} (hn : l.most = some 63) (hdf : d.params.defaults = [])
    (hY : ∀ (w : World) (h : Heap), YP w h → (K w.params).In h)
    (F : ∀ (w : World) (mg : Str → Option Value) (fa : Addr) (h : Heap), (K w.params).In h → h.Ns mainGlobals mg → mg d.name = some (.ref fa) →
      ∃ fd : FuncData, (∀ (s : Shared) (u : Value), BindsTo s fd ⟨[u], []⟩ [("script", u)]) ∧ ∀ base : Heap, (K w.params).In base → base.Ns mainGlobals mg → FnOk l.prog w (K w.params) mg base CX0 (200 + 1) fa fd ["script"] (spF (K w.params) (runF G Ps (calls G Ps 200) 16) 1)) :
    PySem.W.WalkO q loose XP YP l.row.toRowW d [] (fun f vs => PySem.call f vs) :=
  L2.walk_of (n := 63) (k := 200 + 1) (x := "script") (CX := fun _ => CX0) (sp := fun w => spF (K w.params) (runF G Ps (calls G Ps 200) 16) 1) hn (by decide) hdf ⟨rfl, by decide, by decide⟩ hY F
    (fun _ H a ns hl hO hS => law_sp (c := runF G Ps (calls G Ps 200)) (rest := calls G Ps 200) hS (fun b xs e => by rcases hO b with z | ⟨o, ys, z⟩ <;> rw [z] at e <;> cases e) (pure_law ns hl)) fun _ _ _ _ _ z => z
end Kp
open PySem PySem.W PyProof.Rows
set_option maxRecDepth 100000 in
set_option maxHeartbeats 0 in
theorem PySem.Challenge.cw_keptoffers_k02_conditions_looked_at_holds : PySem.Challenge.rw_keptoffers_k02_conditions_looked_at.Holds := by
  w_on; o_law; k_head; (case hw => w_witness2)
  k_fill
  refine Kp.walk (l := PySem.Challenge.rw_keptoffers_k02_conditions_looked_at) rfl rfl (fun w h Y => PySem.W.kIn_of Y) ?F
  case F =>
    intro w mg fa h KX G hmg
    refine' Kp.all_mk KX G hmg ?a0 ?l0 ?c0 ?k0 ?a1 ?l1 ?c1 ?k1 ?a2 ?l2 ?c2 ?k2 ?a3 ?l3 ?c3 ?k3 ?a4 ?l4 ?c4 ?k4 ?a5 ?l5 ?c5 ?k5 ?a6 ?l6 ?c6 ?k6 ?a7 ?l7 ?c7 ?k7 ?a8 ?l8 ?c8 ?k8 ?a9 ?l9 ?c9 ?k9 ?a10 ?l10 ?c10 ?k10 ?a11 ?l11 ?c11 ?k11 ?a12 ?l12 ?c12 ?k12 ?a13 ?l13 ?c13 ?k13 ?a14 ?l14 ?c14 ?k14 ?a15 ?l15 ?c15 ?k15 ?a16 ?l16 ?c16 ?k16 ?z_len ?z_abs ?z_int ?z_min ?z_max ?z_sum ?z_sorted ?z_list ?z_tuple ?z_range ?z_zip ?z_enumerate ?z_isinstance ?z_bool ?z_str ?kon0 ?kon1 ?kon2 ?kon3 200
    (case a0 => k_is)
    (case l0 => k_is)
    (case c0 => k_is)
    (case k0 => k_is)
    (case a1 => k_is)
    (case l1 => k_is)
    (case c1 => k_is)
    (case k1 => k_is)
    (case a2 => k_is)
    (case l2 => k_is)
    (case c2 => k_is)
    (case k2 => k_is)
    (case a3 => k_is)
    (case l3 => k_is)
    (case c3 => k_is)
    (case k3 => k_is)
    (case a4 => k_is)
    (case l4 => k_is)
    (case c4 => k_is)
    (case k4 => k_is)
    (case a5 => k_is)
    (case l5 => k_is)
    (case c5 => k_is)
    (case k5 => k_is)
    (case a6 => k_is)
    (case l6 => k_is)
    (case c6 => k_is)
    (case k6 => k_is)
    (case a7 => k_is)
    (case l7 => k_is)
    (case c7 => k_is)
    (case k7 => k_is)
    (case a8 => k_is)
    (case l8 => k_is)
    (case c8 => k_is)
    (case k8 => k_is)
    (case a9 => k_is)
    (case l9 => k_is)
    (case c9 => k_is)
    (case k9 => k_is)
    (case a10 => k_is)
    (case l10 => k_is)
    (case c10 => k_is)
    (case k10 => k_is)
    (case a11 => k_is)
    (case l11 => k_is)
    (case c11 => k_is)
    (case k11 => k_is)
    (case a12 => k_is)
    (case l12 => k_is)
    (case c12 => k_is)
    (case k12 => k_is)
    (case a13 => k_is)
    (case l13 => k_is)
    (case c13 => k_is)
    (case k13 => k_is)
    (case a14 => k_is)
    (case l14 => k_is)
    (case c14 => k_is)
    (case k14 => k_is)
    (case a15 => k_is)
    (case l15 => k_is)
    (case c15 => k_is)
    (case k15 => k_is)
    (case a16 => k_is)
    (case l16 => k_is)
    (case c16 => k_is)
    (case k16 => k_is)
    (case z_len => k_is)
    (case z_abs => k_is)
    (case z_int => k_is)
    (case z_min => k_is)
    (case z_max => k_is)
    (case z_sum => k_is)
    (case z_sorted => k_is)
    (case z_list => k_is)
    (case z_tuple => k_is)
    (case z_range => k_is)
    (case z_zip => k_is)
    (case z_enumerate => k_is)
    (case z_isinstance => k_is)
    (case z_bool => k_is)
    (case z_str => k_is)
    (case kon0 => k_is)
    (case kon1 => k_is)
    (case kon2 => k_is)
    (case kon3 => k_is)
#print axioms PySem.Challenge.cw_keptoffers_k02_conditions_looked_at_holds
