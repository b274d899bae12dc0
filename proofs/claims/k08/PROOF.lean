import PyProof.Rows.All
import Wide.All
import OpenK.AllK
import Wide.FinOn
import HandS.ForMost
import KE.SortData
import HandS.TupLe
import HandS.TupAny
import HandS.Deep
import HandS.WideBits
import HandS.IsInst
import HandS.Conv
import HandS.RevRange
import HandS.Zip
import HandS.More
import HandS.Small
import KE.DataCmp
import PyProof.ReprRoads
import HandS.Style
import KE.GoesEnum
import HandS.Flow
import HandS.Words
import HandS.Text
import PySem.Challenge.RW_knotweb_k08_whole_same_by_rules
set_option Elab.async false
set_option linter.all false
/-! Kw: a small interpreter over plain data: values, stores, terms, their meaning. No heap here. -/
namespace Kw
open PySem

inductive D where
  | non
  | bl (b : Bool)
  | int (i : Int)
  | str (s : Str)
  | tup (ds : List D)
  | lst (ds : List D)
  | scr (ns : List Int)
  | ref (l : Nat)

mutual
def D.py : D → PyData
  | .non => .none
  | .bl b => .bool b
  | .int i => .int i
  | .str s => .str s
  | .tup ds => .tuple (D.pys ds)
  | .lst ds => .list (D.pys ds)
  | .scr ns => .list (ns.map PyData.int)
  | .ref _ => .none
def D.pys : List D → List PyData
  | [] => []
  | d :: ds => d.py :: D.pys ds
end
mutual
def D.clean : D → Bool
  | .non => true
  | .bl _ => true
  | .int _ => true
  | .str _ => true
  | .tup ds => D.cleans ds
  | .lst ds => D.cleans ds
  | .scr _ => true
  | .ref _ => false
def D.cleans : List D → Bool
  | [] => true
  | d :: ds => d.clean && D.cleans ds
end
mutual
def D.und (n : Nat) : D → Bool
  | .non => true
  | .bl _ => true
  | .int _ => true
  | .str _ => true
  | .tup ds => D.unds n ds
  | .lst ds => D.unds n ds
  | .scr _ => true
  | .ref l => decide (l < n)
def D.unds (n : Nat) : List D → Bool
  | [] => true
  | d :: ds => d.und n && D.unds n ds
end

inductive MO where
  | lst (ds : List D)
  | dK (kvs : List (L2.Key × D))
  | dead

abbrev Store := List MO
abbrev Env := List (Option D)
abbrev R (α : Type) := Option (α × Store)
def R.bind {α β : Type} (x : R α) (f : α → Store → R β) : R β :=
  match x with
  | none => none
  | some p => f p.1 p.2

def LIM : Nat := 1000000

/-- a list of the store, read -/
def rd (st : Store) (d : D) : D :=
  match d with
  | .ref l => match st[l]? with
    | some (.lst ds) => .lst ds
    | _ => d
  | d => d

def D.truth : D → Option Bool
  | .bl b => some b
  | .int i => some (i != 0)
  | .non => some false
  | _ => none

def D.key : D → Option L2.Key
  | .int i => some (.inl i)
  | .str s => some (.inr s)
  | _ => none

/-! ### operators -/
def okMul (i j : Int) : Bool := (decide (-(2 ^ 64) < i) && decide (i < 2 ^ 64)) || (decide (-(2 ^ 64) < j) && decide (j < 2 ^ 64))
def binD (op : Operator) (x y : D) : Option D :=
  match op, x, y with
  | .Add, .int i, .int j => some (.int (i + j))
  | .Add, .str a, .str b => if a.length + b.length ≤ LIM then some (.str (a ++ b)) else none
  | .Add, .lst a, .lst b => if a.length + b.length ≤ LIM then some (.lst (a ++ b)) else none
  | .Add, .tup a, .tup b => if a.length + b.length ≤ LIM then some (.tup (a ++ b)) else none
  | .Sub, .int i, .int j => some (.int (i - j))
  | .Mult, .int i, .int j => if okMul i j then some (.int (i * j)) else none
  | .Mult, .lst a, .int k => if 0 ≤ k ∧ k ≤ 1000 ∧ a.length * k.toNat ≤ LIM then some (.lst (List.replicate k.toNat a).flatten) else none
  | .Mult, .str a, .int k => if 0 ≤ k ∧ k ≤ 1000 ∧ a.length ≤ 1000 then some (.str (Txt.mul a k)) else none
  | .Mod, .int i, .int j => if 0 < j then some (.int (i % j)) else none
  | .FloorDiv, .int i, .int j => if 0 < j ∧ j < 1073741824 then some (.int (i / j)) else none
  | .Pow, .int i, .int j => if 0 ≤ j ∧ j ≤ 1000000 ∧ i.natAbs < 2 ^ 64 then some (.int (i ^ j.toNat)) else none
  | .LShift, .int i, .int j => if 0 ≤ j ∧ (Builtin.Int.intBits i : Int) + j ≤ 2 ^ 27 then some (.int (i * 2 ^ j.toNat)) else none
  | .RShift, .int i, .int j => if 0 ≤ j then some (.int (i / 2 ^ j.toNat)) else none
  | .BitAnd, .int i, .int j => some (.int (Builtin.bitAnd i j))
  | .BitOr, .int i, .int j => some (.int (Builtin.bitOr i j))
  | .BitXor, .int i, .int j => some (.int (Builtin.bitXor i j))
  | _, _, _ => none

/-- data that == can be asked of -/
def eqOk (x : D) : Bool := x.clean && SeqAt.shaped x.py
def inD (x y : D) : Option Bool :=
  match x, y with
  | .str a, .str b => some (!(Builtin.Str.occurrences b a 0 b.length 1).isEmpty)
  | x, .lst ds => if eqOk x && eqOk (.lst ds) then some (ds.any fun z => PyData.eqv z.py x.py) else none
  | x, .tup ds => if eqOk x && eqOk (.tup ds) then some (ds.any fun z => PyData.eqv z.py x.py) else none
  | _, _ => none
/-- k in d -/
def inK (st : Store) (x y : D) : Option Bool :=
  match x.key, y with
  | some k, .ref l => match st[l]? with
    | some (.dK kvs) => some (kvs.any fun p => decide (p.1 = k))
    | _ => none
  | _, _ => none
def ltD (x y : D) : Option Bool :=
  match x, y with
  | .int i, .int j => some (decide (i < j))
  | .str a, .str b => some (decide (a.cps.toList < b.cps.toList))
  | .tup a, .tup b => if eqOk (.tup a) && eqOk (.tup b) && PySem.W.alike (D.py (.tup a)) (D.py (.tup b)) then some (PySem.W.dataLt (D.py (.tup a)) (D.py (.tup b))) else none
  | _, _ => none
def cmpD (op : CmpOp) (st : Store) (x y : D) : Option Bool :=
  match op with
  | .Eq => if eqOk (rd st x) && eqOk (rd st y) then some (PyData.eqv (rd st x).py (rd st y).py) else none
  | .NotEq => if eqOk (rd st x) && eqOk (rd st y) then some (!PyData.eqv (rd st x).py (rd st y).py) else none
  | .Lt => ltD x y
  | .Gt => ltD y x
  | .LtE => (ltD y x).map fun b => !b
  | .GtE => (ltD x y).map fun b => !b
  | .In => match inK st x y with
    | some b => some b
    | none => inD (rd st x) (rd st y)
  | .NotIn => (match inK st x y with
    | some b => some b
    | none => inD (rd st x) (rd st y)).map fun b => !b
  | .Is => match x, y with
    | .non, .non => some true
    | .ref _, .non => some false
    | .tup _, .non => some false
    | .lst _, .non => some false
    | .str _, .non => some false
    | .int _, .non => some false
    | .bl _, .non => some false
    | _, _ => none
  | .IsNot => match x, y with
    | .non, .non => some false
    | .ref _, .non => some true
    | .tup _, .non => some true
    | .lst _, .non => some true
    | .str _, .non => some true
    | .int _, .non => some true
    | .bl _, .non => some true
    | _, _ => none

/-! ### subscripts -/
def cutL {α : Type} (xs : List α) (lo hi : Option Int) : List α := (xs.drop (HT.sIx xs.length 0 lo)).take (HT.sIx xs.length xs.length hi - HT.sIx xs.length 0 lo)
def lookK (kvs : List (L2.Key × D)) (k : L2.Key) : Option D := (kvs.find? fun p => decide (p.1 = k)).map (·.2)
def putK (kvs : List (L2.Key × D)) (k : L2.Key) (v : D) : List (L2.Key × D) :=
  if (kvs.any fun p => decide (p.1 = k)) = true then kvs.map (fun p => if p.1 = k then (p.1, v) else p) else kvs ++ [(k, v)]
def ixD (st : Store) (x y : D) : Option D :=
  match x, y with
  | .lst ds, .int i => L2.atI ds i
  | .tup ds, .int i => L2.atI ds i
  | .scr ns, .int i => (L2.atI ns i).map .int
  | .str s, .int i => if s.length ≤ LIM then (L2.atI s.cps.toList i).map fun c => .str ⟨#[c]⟩ else none
  | .ref l, y => match st[l]? with
    | some (.lst ds) => match y with
      | .int i => L2.atI ds i
      | _ => none
    | some (.dK kvs) => match y.key with
      | some k => lookK kvs k
      | none => none
    | _ => none
  | _, _ => none
def slD (x : D) (lo hi : Option Int) : Option D :=
  match x with
  | .lst ds => some (.lst (cutL ds lo hi))
  | .tup ds => some (.tup (cutL ds lo hi))
  | .str s => if s.length ≤ LIM then some (.str (L2.cutS s lo hi)) else none
  | _ => none

/-! ### built-ins -/
inductive Bi where
  | len | list | listM | tuple | sorted | sum | all | any | max | min | repr | int | dict
  | isinst (T : String)
def intsOf : List D → Option (List Int)
  | [] => some []
  | .int i :: ds => (intsOf ds).map (i :: ·)
  | _ :: _ => none
def boolsOf : List D → Option (List Bool)
  | [] => some []
  | .bl b :: ds => (boolsOf ds).map (b :: ·)
  | _ :: _ => none
def strsOf : List D → Option (List Str)
  | [] => some []
  | .str b :: ds => (strsOf ds).map (b :: ·)
  | _ :: _ => none
/-- data that one sort takes -/
def allAlike (ds : List D) : Bool := ds.all fun d => ds.all fun e => PySem.W.alike d.py e.py
def sortOk (ds : List D) : Bool := (ds.all fun d => match d with
  | .tup (_ :: _) => true
  | _ => false) || (ds.all fun d => match d with
  | .int _ => true
  | .str _ => true
  | _ => false)
def sortD (ds : List D) : Option (List D) :=
  if D.cleans ds && allAlike ds && sortOk ds && ds.all (fun d => eqOk d) && decide (ds.length ≤ LIM) then some (ds.mergeSort fun a b => !PySem.W.dataLt b.py a.py) else none
def maxI (a : Int) : List Int → Int
  | [] => a
  | b :: r => maxI (if b > a then b else a) r
def minI (a : Int) : List Int → Int
  | [] => a
  | b :: r => minI (if b < a then b else a) r
def pairsK : List D → Option (List (L2.Key × D))
  | [] => some []
  | .tup [k, v] :: ds => match k.key, pairsK ds with
    | some k, some r => some ((k, v) :: r)
    | _, _ => none
  | _ :: _ => none
def mergeD (acc more : List (L2.Key × D)) : List (L2.Key × D) := more.foldl (fun acc p => putK acc p.1 p.2) acc
def keyD : L2.Key → D
  | .inl i => .int i
  | .inr s => .str s
def isT (T : String) : D → Option Bool
  | .non => some false
  | .bl _ => if T = "bool" ∨ T = "int" then some true else some false
  | .int _ => if T = "int" then some true else some false
  | .str _ => if T = "str" then some true else some false
  | .tup _ => if T = "tuple" then some true else some false
  | .lst _ => if T = "list" then some true else some false
  | _ => none
def biD (b : Bi) (ds : List D) (st : Store) : R D :=
  match b, ds with
  | .len, [d] => match d with
    | .str s => if s.length ≤ LIM then some (.int s.length, st) else none
    | .tup xs => some (.int xs.length, st)
    | .lst xs => some (.int xs.length, st)
    | .scr ns => some (.int ns.length, st)
    | .ref l => match st[l]? with
      | some (.lst xs) => some (.int xs.length, st)
      | some (.dK kvs) => some (.int kvs.length, st)
      | _ => none
    | _ => none
  | .list, [d] => match d with
    | .tup xs => some (.lst xs, st)
    | .lst xs => some (.lst xs, st)
    | .ref l => match st[l]? with
      | some (.dK kvs) => if D.cleans (kvs.map fun p => keyD p.1) then some (.lst (kvs.map fun p => keyD p.1), st) else none
      | _ => none
    | _ => none
  | .listM, [d] => match d with
    | .tup xs => if D.unds st.length xs then some (.ref st.length, st ++ [.lst xs]) else none
    | .lst xs => if D.unds st.length xs then some (.ref st.length, st ++ [.lst xs]) else none
    | _ => none
  | .tuple, [d] => match d with
    | .tup xs => some (.tup xs, st)
    | .lst xs => some (.tup xs, st)
    | .ref l => match st[l]? with
      | some (.dK kvs) => some (.tup (kvs.map fun p => keyD p.1), st)
      | some (.lst xs) => if D.cleans xs then some (.tup xs, st) else none
      | _ => none
    | _ => none
  | .sorted, [d] => match d with
    | .lst xs => (sortD xs).map fun ys => (.lst ys, st)
    | .tup xs => (sortD xs).map fun ys => (.lst ys, st)
    | _ => none
  | .sum, [.lst xs] => (intsOf xs).map fun ns => (.int ns.sum, st)
  | .all, [.lst xs] => (boolsOf xs).map fun bs => (.bl (bs.all id), st)
  | .any, [.lst xs] => (boolsOf xs).map fun bs => (.bl (bs.any id), st)
  | .max, [.lst xs] => match intsOf xs with
    | some (a :: r) => some (.int (maxI a r), st)
    | _ => none
  | .min, [.lst xs] => match intsOf xs with
    | some (a :: r) => some (.int (minI a r), st)
    | _ => none
  | .max, [.int i, .int j] => some (.int (if j > i then j else i), st)
  | .min, [.int i, .int j] => some (.int (if j < i then j else i), st)
  | .repr, [d] => if eqOk d && decide (d.py.shown.length ≤ LIM) && d.py.showable then some (.str d.py.shown, st) else none
  | .int, [.bl b] => some (.int (if b then 1 else 0), st)
  | .int, [.int i] => some (.int i, st)
  | .dict, [.lst xs] => match pairsK xs with
    | some kvs => if D.cleans (kvs.map (·.2)) && decide (xs.length ≤ LIM) then some (.ref st.length, st ++ [.dK (mergeD [] kvs)]) else none
    | none => none
  | .isinst T, [d] => (isT T d).map fun b => (.bl b, st)
  | _, _ => none

/-! ### methods of built-in types -/
inductive Mt where
  | append | pop0 | pop1 | extend | insert | join | split | index | get2
def ixOf (x : PyData) : List D → Option Nat
  | [] => none
  | d :: ds => if PyData.eqv d.py x then some 0 else (ixOf x ds).map (· + 1)
def mtD (m : Mt) (o : D) (ds : List D) (st : Store) : R D :=
  match m, o, ds with
  | .append, .ref l, [d] => match st[l]? with
    | some (.lst xs) => if d.clean && decide (xs.length < LIM) then some (.non, st.set l (.lst (xs ++ [d]))) else none
    | _ => none
  | .pop0, .ref l, [] => match st[l]? with
    | some (.lst xs) => match xs[xs.length - 1]? with
      | some d => some (d, st.set l (.lst xs.dropLast))
      | none => none
    | _ => none
  | .pop1, .ref l, [.int i] => match st[l]? with
    | some (.lst xs) => if 0 ≤ i ∧ i < 1000000 then match xs[i.toNat]? with
      | some d => some (d, st.set l (.lst (xs.eraseIdx i.toNat)))
      | none => none else none
    | _ => none
  | .extend, .ref l, [.lst ys] => match st[l]? with
    | some (.lst xs) => if D.cleans ys && decide (xs.length + ys.length ≤ LIM) then some (.non, st.set l (.lst (xs ++ ys))) else none
    | _ => none
  | .insert, .ref l, [.int i, d] => match st[l]? with
    | some (.lst xs) => if d.clean ∧ 0 ≤ i ∧ i < 1000000 ∧ xs.length < LIM then some (.non, st.set l (.lst (xs.take i.toNat ++ [d] ++ xs.drop i.toNat))) else none
    | _ => none
  | .join, .str a, [.lst xs] => match strsOf xs with
    | some ys => if (ys.map (·.length)).sum + ys.length * a.length ≤ LIM then some (.str (Txt.join a ys), st) else none
    | none => none
  | .split, .str a, [.str b] => if (b.length == 0) = false ∧ a.length ≤ LIM then some (.lst ((Txt.split a b).map .str), st) else none
  | .index, .lst xs, [d] => if eqOk d && eqOk (.lst xs) then (ixOf d.py xs).map fun (j : Nat) => (D.int (j : Int), st) else none
  | .get2, .ref l, [k, x] => match st[l]?, k.key with
    | some (.dK kvs), some k => some ((lookK kvs k).getD x, st)
    | _, _ => none
  | _, _, _ => none

/-- the receiver is of the method's type -/
def mtTy (m : Mt) (d : D) (st : Store) : Bool :=
  match d with
  | .str _ => match m with
    | .join => true
    | .split => true
    | _ => false
  | .ref l => match st[l]? with
    | some (.lst _) => match m with
      | .append => true
      | .pop0 => true
      | .pop1 => true
      | .extend => true
      | .insert => true
      | .index => true
      | _ => false
    | some (.dK _) => match m with
      | .get2 => true
      | _ => false
    | _ => false
  | .lst _ => match m with
    | .index => true
    | _ => false
  | _ => false

/-! ### terms -/
inductive G where
  | nm (i : Nat)
  | tup (gs : List Nat)
mutual
inductive E where
  | var (i : Nat)
  | con (d : D)
  | glob (x : Str) (d : D)
  | tup (es : List E)
  | lst (es : List E)
  | nlst (es : List E)
  | ndic (ks : List Str) (es : List E)
  | bin (op : Operator) (a b : E)
  | neg (a : E)
  | inv (a : E)
  | cmp (op : CmpOp) (a b : E)
  | cmp2 (op op' : CmpOp) (a b c : E)
  | and (es : List E)
  | or (es : List E)
  | not (a : E)
  | ite (c a b : E)
  | ix (a b : E)
  | sl (a : E) (lo hi : Option E)
  | rev (a : E)
  | call (f : Nat) (es : List E)
  | bi (b : Bi) (es : List E)
  | mt (m : Mt) (o : E) (es : List E)
  | kget (x : Str) (t : List (Str × Int)) (k d : E)
  | lc (mu : Bool) (elt : E) (g : G) (it : It) (c : Option E) (own : List Nat)
inductive It where
  | seq (e : E)
  | rng (e : E)
  | rng2 (a b : E)
  | rrng (e : E)
  | enum (e : E)
  | zip (a b : E)
end
inductive S where
  | asg (g : G) (e : E)
  | par2 (i j : Nat) (a b : E)
  | aug (i : Nat) (op : Operator) (e : E)
  | sub (o i e : E)
  | if_ (c : E) (a b : List S)
  | for_ (g : G) (it : It) (b : List S)
  | while_ (c : E) (b : List S)
  | ret (e : E)
  | ex (e : E)
  | brk
  | cont
  | pass
  | never
  | frz (i : Nat)

/-! ### meaning -/
abbrev CF := Nat → List D → Store → R D
def asgNs : List Nat → List D → Env → Option Env
  | [], [], env => some env
  | i :: is, d :: ds, env => if i < env.length then asgNs is ds (env.set i (some d)) else none
  | _, _, _ => none
def asgG (g : G) (d : D) (env : Env) : Option Env :=
  match g, d with
  | .nm i, d => if i < env.length then some (env.set i (some d)) else none
  | .tup is, .tup ds => asgNs is ds env
  | .tup _, _ => none
def wipeD (env : Env) : List Nat → Env
  | [] => env
  | v :: vs => (wipeD env vs).set v none
def evLc (f : D → Store → R (Option D)) : List D → Store → R (List D)
  | [], st => some ([], st)
  | x :: xs, st => R.bind (f x st) fun o st1 => R.bind (evLc f xs st1) fun ys st2 => some (o.toList ++ ys, st2)
def itemsOf : D → Option (List D)
  | .lst ds => some ds
  | .tup ds => some ds
  | .scr ns => some (ns.map .int)
  | .str s => some (s.cps.toList.map fun c => .str ⟨#[c]⟩)
  | _ => none
def rngD (a b : Int) : List D := (List.range (b - a).toNat).map fun (i : Nat) => D.int (a + i)
def rngOk (a : Int) : Bool := decide (-(2 ^ 62) ≤ a) && decide (a < 2 ^ 62)
def enumD : Nat → List D → List D
  | _, [] => []
  | i, d :: ds => .tup [.int i, d] :: enumD (i + 1) ds
def zipD : List D → List D → List D
  | a :: as, b :: bs => .tup [a, b] :: zipD as bs
  | _, _ => []
def optI (o : Option (Option D)) : Option (Option Int) :=
  match o with
  | some none => some none
  | some (some (.int i)) => some (some i)
  | _ => none

mutual
def evE (cf : CF) : E → Env → Store → R D
  | .var i, env, st => match env[i]? with
    | some (some d) => some (d, st)
    | _ => none
  | .con d, _, st => some (d, st)
  | .glob _ d, _, st => some (d, st)
  | .tup es, env, st => R.bind (evEs cf es env st) fun ds st => some (.tup ds, st)
  | .lst es, env, st => R.bind (evEs cf es env st) fun ds st => some (.lst ds, st)
  | .nlst es, env, st => R.bind (evEs cf es env st) fun ds st => if D.unds st.length ds then some (.ref st.length, st ++ [.lst ds]) else none
  | .ndic ks es, env, st => R.bind (evEs cf es env st) fun ds st => if D.unds st.length ds && decide (ks.length = ds.length) && decide (ks.length ≤ 15) then
      some (.ref st.length, st ++ [.dK (mergeD [] ((ks.map Sum.inr).zip ds))]) else none
  | .bin op a b, env, st => R.bind (evE cf a env st) fun x st => R.bind (evE cf b env st) fun y st => (binD op (rd st x) (rd st y)).map fun z => (z, st)
  | .neg a, env, st => R.bind (evE cf a env st) fun x st => match x with
    | .int i => some (.int (-i), st)
    | _ => none
  | .inv a, env, st => R.bind (evE cf a env st) fun x st => match x with
    | .int i => some (.int (Builtin.bitNot i), st)
    | _ => none
  | .cmp op a b, env, st => R.bind (evE cf a env st) fun x st => R.bind (evE cf b env st) fun y st => (cmpD op st x y).map fun z => (.bl z, st)
  | .cmp2 op op' a b c, env, st => R.bind (evE cf a env st) fun x st => R.bind (evE cf b env st) fun y st => match cmpD op st x y with
    | some true => R.bind (evE cf c env st) fun z st => (cmpD op' st y z).map fun w => (.bl w, st)
    | some false => some (.bl false, st)
    | none => none
  | .and es, env, st => evAnd cf es env st
  | .or es, env, st => evOr cf es env st
  | .not a, env, st => R.bind (evE cf a env st) fun x st => x.truth.map fun b => (.bl (!b), st)
  | .ite c a b, env, st => R.bind (evE cf c env st) fun x st => match x.truth with
    | some true => evE cf a env st
    | some false => evE cf b env st
    | none => none
  | .ix a b, env, st => R.bind (evE cf a env st) fun x st => R.bind (evE cf b env st) fun y st => (ixD st x y).map fun z => (z, st)
  | .sl a lo hi, env, st => R.bind (evE cf a env st) fun x st => R.bind (evO cf lo env st) fun l st => R.bind (evO cf hi env st) fun h st =>
      (slD (rd st x) l h).map fun z => (z, st)
  | .rev a, env, st => R.bind (evE cf a env st) fun x st => match rd st x with
    | .lst ds => some (.lst ds.reverse, st)
    | _ => none
  | .call f es, env, st => R.bind (evEs cf es env st) fun ds st => cf f ds st
  | .bi b es, env, st => R.bind (evEs cf es env st) fun ds st => biD b ds st
  | .mt m o es, env, st => R.bind (evE cf o env st) fun x st => if mtTy m x st then R.bind (evEs cf es env st) fun ds st => mtD m x ds st else none
  | .kget _ t k d, env, st => R.bind (evE cf k env st) fun x st => R.bind (evE cf d env st) fun y st => match x with
    | .str s => some (((t.lookup s).map D.int).getD y, st)
    | _ => none
  | .lc mu elt g it c own, env, st => R.bind (evI cf it env st) fun ds st =>
      R.bind (evLc (fun x st => match asgG g x (wipeD env own) with
        | none => none
        | some env1 => R.bind (evC cf c env1 st) fun b st => if b then R.bind (evE cf elt env1 st) fun y st => some (some y, st) else some (none, st)) ds st) fun ys st =>
      if ys.length ≤ LIM then (if mu then (if D.unds st.length ys then some (.ref st.length, st ++ [.lst ys]) else none) else some (.lst ys, st)) else none
def evEs (cf : CF) : List E → Env → Store → R (List D)
  | [], _, st => some ([], st)
  | e :: es, env, st => R.bind (evE cf e env st) fun d st => R.bind (evEs cf es env st) fun ds st => some (d :: ds, st)
def evAnd (cf : CF) : List E → Env → Store → R D
  | [], _, _ => none
  | e :: es, env, st => match es with
    | [] => evE cf e env st
    | _ :: _ => R.bind (evE cf e env st) fun x st => match x with
      | .bl true => evAnd cf es env st
      | .bl false => some (.bl false, st)
      | _ => none
def evOr (cf : CF) : List E → Env → Store → R D
  | [], _, _ => none
  | e :: es, env, st => match es with
    | [] => evE cf e env st
    | _ :: _ => R.bind (evE cf e env st) fun x st => match x with
      | .bl false => evOr cf es env st
      | .bl true => some (.bl true, st)
      | _ => none
def evO (cf : CF) : Option E → Env → Store → R (Option Int)
  | none, _, st => some (none, st)
  | some e, env, st => R.bind (evE cf e env st) fun x st => match x with
    | .int i => some (some i, st)
    | _ => none
def evC (cf : CF) : Option E → Env → Store → R Bool
  | none, _, st => some (true, st)
  | some e, env, st => R.bind (evE cf e env st) fun x st => x.truth.map fun b => (b, st)
def evI (cf : CF) : It → Env → Store → R (List D)
  | .seq e, env, st => R.bind (evE cf e env st) fun x st => (itemsOf x).map fun ds => (ds, st)
  | .rng e, env, st => R.bind (evE cf e env st) fun x st => match x with
    | .int j => if rngOk j then some (rngD 0 j, st) else none
    | _ => none
  | .rng2 a b, env, st => R.bind (evE cf a env st) fun x st => R.bind (evE cf b env st) fun y st => match x, y with
    | .int i, .int j => if rngOk i && rngOk j then some (rngD i j, st) else none
    | _, _ => none
  | .rrng e, env, st => R.bind (evE cf e env st) fun x st => match x with
    | .int j => if rngOk j then some ((rngD 0 j).reverse, st) else none
    | _ => none
  | .enum e, env, st => R.bind (evE cf e env st) fun x st => match x with
    | .lst ds => some (enumD 0 ds, st)
    | .tup ds => some (enumD 0 ds, st)
    | _ => none
  | .zip a b, env, st => R.bind (evE cf a env st) fun x st => R.bind (evE cf b env st) fun y st => match x, y with
    | .lst ds, .lst es => some (zipD ds es, st)
    | .tup ds, .tup es => some (zipD ds es, st)
    | _, _ => none
end

inductive Fl where
  | nx (env : Env)
  | rt (d : D)
  | bk (env : Env)
  | ct (env : Env)
def evFor (g : G) (body : Env → Store → R Fl) : List D → Env → Store → R Fl
  | [], env, st => some (.nx env, st)
  | x :: xs, env, st => match asgG g x env with
    | none => none
    | some env1 => R.bind (body env1 st) fun fl st1 => match fl with
      | .nx e => evFor g body xs e st1
      | .ct e => evFor g body xs e st1
      | .bk e => some (.nx e, st1)
      | .rt d => some (.rt d, st1)
def evWh (c : Env → Store → R Bool) (body : Env → Store → R Fl) : Nat → Env → Store → R Fl
  | 0, _, _ => none
  | n + 1, env, st => R.bind (c env st) fun t st1 => if t then R.bind (body env st1) fun fl st2 => match fl with
      | .nx e => evWh c body n e st2
      | .ct e => evWh c body n e st2
      | .bk e => some (.nx e, st2)
      | .rt d => some (.rt d, st2) else some (.nx env, st1)
def FU : Nat := 10000000
def subD (o i v : D) (st : Store) : Option Store :=
  match o with
  | .ref l => match st[l]? with
    | some (.lst xs) => match i with
      | .int i => match L2.ixN xs.length i with
        | some j => if v.clean then some (st.set l (.lst (xs.set j v))) else none
        | none => none
      | _ => none
    | some (.dK kvs) => match i.key with
      | some k => if v.clean && decide (kvs.length < LIM) then some (st.set l (.dK (putK kvs k v))) else none
      | none => none
    | _ => none
  | _ => none
mutual
def evS (cf : CF) : S → Env → Store → R Fl
  | .asg g e, env, st => R.bind (evE cf e env st) fun x st => (asgG g x env).map fun env => (.nx env, st)
  | .par2 i j a b, env, st => R.bind (evE cf a env st) fun x st => R.bind (evE cf b env st) fun y st =>
      if i < env.length ∧ j < env.length then some (.nx ((env.set i (some x)).set j (some y)), st) else none
  | .aug i op e, env, st => match env[i]? with
    | some (some x) => R.bind (evE cf e env st) fun y st => match x, y with
      | .int a, .int b => (binD op (.int a) (.int b)).map fun z => (.nx (env.set i (some z)), st)
      | _, _ => none
    | _ => none
  | .sub o i e, env, st => R.bind (evE cf e env st) fun v st => R.bind (evE cf o env st) fun ov st => R.bind (evE cf i env st) fun iv st =>
      (subD ov iv v st).map fun st => (.nx env, st)
  | .if_ c a b, env, st => R.bind (evE cf c env st) fun x st => match x.truth with
    | some true => evSs cf a env st
    | some false => evSs cf b env st
    | none => none
  | .for_ g it b, env, st => R.bind (evI cf it env st) fun ds st => evFor g (fun env st => evSs cf b env st) ds env st
  | .while_ c b, env, st => evWh (fun env st => R.bind (evE cf c env st) fun x st => x.truth.map fun b => (b, st)) (fun env st => evSs cf b env st) FU env st
  | .ret e, env, st => R.bind (evE cf e env st) fun x st => some (.rt x, st)
  | .ex e, env, st => R.bind (evE cf e env st) fun _ st => some (.nx env, st)
  | .brk, env, st => some (.bk env, st)
  | .cont, env, st => some (.ct env, st)
  | .pass, env, st => some (.nx env, st)
  | .never, _, _ => none
  | .frz i, env, st => match env[i]? with
    | some (some (.lst _)) => some (.nx env, st)
    | some (some (.ref l)) => match st[l]? with
      | some (.lst ds) => some (.nx (env.set i (some (.lst ds))), st.set l .dead)
      | _ => none
    | _ => none
def evSs (cf : CF) : List S → Env → Store → R Fl
  | [], env, st => some (.nx env, st)
  | s :: ss, env, st => R.bind (evS cf s env st) fun fl st => match fl with
    | .nx env => evSs cf ss env st
    | .rt d => some (.rt d, st)
    | .bk e => some (.bk e, st)
    | .ct e => some (.ct e, st)
end

structure Fn where
  np : Nat
  nn : Nat
  body : List S
def retOf (n : Nat) (d : D) (st : Store) : R D := some (d, if d.und n then st.take n else st)
def runF (cf : CF) (f : Fn) (ds : List D) (st : Store) : R D :=
  if ds.length = f.np then
    match evSs cf f.body (ds.map some ++ List.replicate (f.nn - f.np) none) st with
    | some (.rt d, st1) => retOf st.length d st1
    | some (.nx _, st1) => retOf st.length .non st1
    | _ => none
  else none
abbrev Tab := List Fn
def cfN (tab : Tab) : Nat → CF
  | 0 => fun _ _ _ => none
  | k + 1 => fun x ds st => match tab[x]? with
    | some f => runF (cfN tab k) f ds st
    | none => none
end Kw

set_option Elab.async false
set_option linter.all false
/-! Kw: how plain data lie on the abstract heap, and how that stays. -/
namespace Kw
open PySem L2

/-- a list or a dict -/
def isLD : HO → Prop
  | .lst _ => True
  | .dK _ => True
  | _ => False
structure Wd where
  io : Nat → Addr
  st : Store
  H : Hp
  /-- lists that are being made: no value has them yet -/
  hid : Addr → Prop

def Wd.live (w : Wd) (a : Addr) : Prop := w.hid a ∨ ∃ l mo, w.st[l]? = some mo ∧ mo ≠ MO.dead ∧ w.io l = a

/-- the script, or another list that nobody changes -/
def Still (K : PySem.W.Frag) (H : Hp) (a : Addr) (xs : List V) : Prop :=
  (∃ o, H a = some (.frz o (.lst xs))) ∨
    ∃ (o : Obj) (its : Array Value) (n : Nat), K.lookup a = some o ∧ o.cls = .type "list" ∧ o.dict = none ∧ o.data = .seq its n ∧ its.size ≤ sizeLine ∧ Vals xs its.toList
theorem Still.sq {K : PySem.W.Frag} {H : Hp} {a : Addr} {xs : List V} (h : Still K H a xs) : SqL K H a xs := by
  rcases h with h | h
  · exact .inl (.inr h)
  · exact .inr h

mutual
inductive Rp (K : PySem.W.Frag) (w : Wd) : D → V → Prop
  | non : Rp K w .non .non
  | bl (b : Bool) : Rp K w (.bl b) (.bl b)
  | int (i : Int) : Rp K w (.int i) (.int i)
  | str (s : Str) : Rp K w (.str s) (.str s)
  | tup {a : Addr} {vs : List V} {ds : List D} : SqT K w.H a vs → Rps K w ds vs → Rp K w (.tup ds) (.ref a)
  | lst {a : Addr} {vs : List V} {ds : List D} : w.H a = some (.lst vs) → ¬ w.live a → Rps K w ds vs → Rp K w (.lst ds) (.ref a)
  | scr {a : Addr} {ns : List Int} : Still K w.H a (ns.map V.int) → Rp K w (.scr ns) (.ref a)
  | ref {l : Nat} : l < w.st.length → Rp K w (.ref l) (.ref (w.io l))
inductive Rps (K : PySem.W.Frag) (w : Wd) : List D → List V → Prop
  | nil : Rps K w [] []
  | cons {d : D} {v : V} {ds : List D} {vs : List V} : Rp K w d v → Rps K w ds vs → Rps K w (d :: ds) (v :: vs)
end

def RpK (K : PySem.W.Frag) (w : Wd) (kvs : List (L2.Key × D)) (ws : List (L2.Key × V)) : Prop := ws.map (·.1) = kvs.map (·.1) ∧ Rps K w (kvs.map (·.2)) (ws.map (·.2))

def OR (K : PySem.W.Frag) (w : Wd) (l : Nat) : MO → Prop
  | .lst ds => D.unds l ds = true ∧ ∃ vs, w.H (w.io l) = some (.lst vs) ∧ Rps K w ds vs
  | .dK kvs => D.unds l (kvs.map (·.2)) = true ∧ ∃ ws, w.H (w.io l) = some (.dK ws) ∧ RpK K w kvs ws
  | .dead => True

structure Ok (K : PySem.W.Frag) (w : Wd) : Prop where
  inj : ∀ i j mi mj, w.st[i]? = some mi → w.st[j]? = some mj → mi ≠ .dead → mj ≠ .dead → w.io i = w.io j → i = j
  ob : ∀ l mo, w.st[l]? = some mo → OR K w l mo
  hl : ∀ a, w.hid a → ∃ o, w.H a = some o ∧ isLD o
  hn : ∀ a l mo, w.hid a → w.st[l]? = some mo → mo ≠ .dead → w.io l ≠ a

structure Le (w w' : Wd) : Prop where
  fr : ∀ a o, w.H a = some o → ¬ w.live a → w'.H a = some o
  nl : ∀ a, w'.live a → w.live a ∨ w.H a = none
  io : ∀ l, l < w.st.length → w'.io l = w.io l
  len : w.st.length ≤ w'.st.length
  hd : ∀ a, w.hid a → w'.hid a ∧ w'.H a = w.H a

section
variable {K : PySem.W.Frag} {w w1 w2 w' : Wd} {a : Addr} {d : D} {v : V} {ds : List D} {vs : List V}
theorem Le.refl (w : Wd) : Le w w := ⟨fun _ _ h _ => h, fun _ h => .inl h, fun _ _ => rfl, Nat.le_refl _, fun _ h => ⟨h, rfl⟩⟩
theorem Le.dead (h : Le w w1) {o : HO} (e : w.H a = some o) (n : ¬ w.live a) : ¬ w1.live a := fun z => by
  rcases h.nl a z with q | q
  · exact n q
  · rw [e] at q; cases q
theorem Le.trans (h : Le w w1) (h' : Le w1 w2) : Le w w2 where
  fr := fun a o e n => h'.fr a o (h.fr a o e n) (h.dead e n)
  nl := fun a z => by
    rcases h'.nl a z with q | q
    · exact h.nl a q
    · by_cases n : w.live a
      · exact .inl n
      · right
        cases e : w.H a with
        | none => rfl
        | some o => rw [h.fr a o e n] at q; cases q
  io := fun l hl => (h'.io l (Nat.lt_of_lt_of_le hl h.len)).trans (h.io l hl)
  len := Nat.le_trans h.len h'.len
  hd := fun a z => ⟨(h'.hd a (h.hd a z).1).1, ((h'.hd a (h.hd a z).1).2).trans (h.hd a z).2⟩
theorem Ok.obj (k : Ok K w) (h : w.live a) : (∃ xs, w.H a = some (.lst xs)) ∨ ∃ xs, w.H a = some (.dK xs) := by
  rcases h with h | ⟨l, mo, e, n, rfl⟩
  · obtain ⟨o, e, ho⟩ := k.hl a h
    cases o with
    | lst xs => exact .inl ⟨xs, e⟩
    | dK xs => exact .inr ⟨xs, e⟩
    | _ => exact False.elim ho
  have q := k.ob l mo e
  cases mo with
  | lst ds => obtain ⟨_, vs, e, _⟩ := q; exact .inl ⟨vs, e⟩
  | dK kvs => obtain ⟨_, vs, e, _⟩ := q; exact .inr ⟨vs, e⟩
  | dead => exact absurd rfl n
theorem Ok.rdT (k : Ok K w) (le : Le w w') (h : SqT K w.H a vs) : SqT K w'.H a vs := by
  rcases h with (h | ⟨o, h⟩) | h
  · refine .inl (.inl (le.fr _ _ h fun z => ?_))
    rcases k.obj z with ⟨_, e⟩ | ⟨_, e⟩ <;> (rw [h] at e; cases e)
  · refine .inl (.inr ⟨o, le.fr _ _ h fun z => ?_⟩)
    rcases k.obj z with ⟨_, e⟩ | ⟨_, e⟩ <;> (rw [h] at e; cases e)
  · exact .inr h
theorem Ok.still (k : Ok K w) (le : Le w w') (h : Still K w.H a vs) : Still K w'.H a vs := by
  rcases h with ⟨o, h⟩ | h
  · refine .inl ⟨o, le.fr _ _ h fun z => ?_⟩
    rcases k.obj z with ⟨_, e⟩ | ⟨_, e⟩ <;> (rw [h] at e; cases e)
  · exact .inr h
mutual
theorem Rp.mono (k : Ok K w) (le : Le w w') : ∀ {d : D} {v : V}, Rp K w d v → Rp K w' d v
  | _, _, .non => .non
  | _, _, .bl b => .bl b
  | _, _, .int i => .int i
  | _, _, .str s => .str s
  | _, _, .tup h r => .tup (k.rdT le h) (Rps.mono k le r)
  | _, _, .lst h n r => .lst (le.fr _ _ h n) (le.dead h n) (Rps.mono k le r)
  | _, _, .scr h => .scr (k.still le h)
  | _, _, .ref (l := l) h => by
    rw [← le.io l h]
    exact .ref (Nat.lt_of_lt_of_le h le.len)
theorem Rps.mono (k : Ok K w) (le : Le w w') : ∀ {ds : List D} {vs : List V}, Rps K w ds vs → Rps K w' ds vs
  | _, _, .nil => .nil
  | _, _, .cons h r => .cons (Rp.mono k le h) (Rps.mono k le r)
end
theorem Rps.length : ∀ {ds : List D} {vs : List V}, Rps K w ds vs → vs.length = ds.length
  | _, _, .nil => rfl
  | _, _, .cons _ r => by simp [Rps.length r]
theorem Rps.get : ∀ {ds : List D} {vs : List V} {i : Nat} {d : D}, Rps K w ds vs → ds[i]? = some d → ∃ v, vs[i]? = some v ∧ Rp K w d v
  | _, _, _, _, .nil, e => by simp at e
  | _, _, 0, _, .cons h _, e => by simp at e; subst e; exact ⟨_, rfl, h⟩
  | _, _, i + 1, _, .cons _ r, e => by
    obtain ⟨v, h1, h2⟩ := Rps.get (i := i) r (by simpa using e)
    exact ⟨v, by simpa using h1, h2⟩
theorem Rps.append : ∀ {ds es : List D} {vs us : List V}, Rps K w ds vs → Rps K w es us → Rps K w (ds ++ es) (vs ++ us)
  | _, _, _, _, .nil, s => s
  | _, _, _, _, .cons h r, s => .cons h (Rps.append r s)
theorem Rps.take : ∀ (n : Nat) {ds : List D} {vs : List V}, Rps K w ds vs → Rps K w (ds.take n) (vs.take n)
  | 0, _, _, _ => by simp; exact .nil
  | _ + 1, _, _, .nil => by simp; exact .nil
  | n + 1, _, _, .cons h r => by simp; exact .cons h (Rps.take n r)
theorem Rps.drop : ∀ (n : Nat) {ds : List D} {vs : List V}, Rps K w ds vs → Rps K w (ds.drop n) (vs.drop n)
  | 0, _, _, r => by simpa using r
  | _ + 1, _, _, .nil => by simp; exact .nil
  | n + 1, _, _, .cons _ r => by simpa using Rps.drop n r
theorem Rps.set : ∀ (n : Nat) {ds : List D} {vs : List V} {d : D} {v : V}, Rps K w ds vs → Rp K w d v → Rps K w (ds.set n d) (vs.set n v)
  | _, _, _, _, _, .nil, _ => .nil
  | 0, _, _, _, _, .cons _ r, h => .cons h r
  | n + 1, _, _, _, _, .cons h0 r, h => .cons h0 (Rps.set n r h)
theorem Rps.erase : ∀ (n : Nat) {ds : List D} {vs : List V}, Rps K w ds vs → Rps K w (ds.eraseIdx n) (vs.eraseIdx n)
  | _, _, _, .nil => .nil
  | 0, _, _, .cons _ r => r
  | n + 1, _, _, .cons h r => .cons h (Rps.erase n r)
theorem Rps.dropLast {ds : List D} {vs : List V} (h : Rps K w ds vs) : Rps K w ds.dropLast vs.dropLast := by
  rw [List.dropLast_eq_take, List.dropLast_eq_take, h.length]
  exact h.take _
theorem Rps.rep {ds : List D} {vs : List V} (h : Rps K w ds vs) : ∀ n : Nat, Rps K w (List.replicate n ds).flatten (List.replicate n vs).flatten
  | 0 => .nil
  | n + 1 => by
    rw [List.replicate_succ, List.replicate_succ, List.flatten_cons, List.flatten_cons]
    exact h.append (Rps.rep h n)
theorem Rps.at {ds : List D} {vs : List V} {i : Int} {d : D} (h : Rps K w ds vs) (e : atI ds i = some d) : ∃ v, atI vs i = some v ∧ Rp K w d v := by
  unfold atI at e ⊢
  rw [h.length]
  cases q : ixN ds.length i with
  | none => rw [q] at e; cases e
  | some j =>
    rw [q] at e
    exact h.get e
theorem cutV_eq (xs : List V) (lo hi : Option Int) : cutV xs lo hi = cutL xs lo hi := rfl
theorem Rps.cut {ds : List D} {vs : List V} (h : Rps K w ds vs) (lo hi : Option Int) : Rps K w (cutL ds lo hi) (cutV vs lo hi) := by
  rw [cutV_eq]
  unfold cutL
  rw [h.length]
  exact (h.drop _).take _
theorem Rps.ints : ∀ (ns : List Int), Rps K w (ns.map D.int) (ns.map V.int)
  | [] => .nil
  | n :: ns => .cons (.int n) (Rps.ints ns)
theorem Rps.strs : ∀ (ns : List Str), Rps K w (ns.map D.str) (ns.map V.str)
  | [] => .nil
  | n :: ns => .cons (.str n) (Rps.strs ns)
theorem Rps.intsOf : ∀ {ds : List D} {vs : List V} {ns : List Int}, Rps K w ds vs → intsOf ds = some ns → vs = ns.map V.int
  | _, _, _, .nil, e => by cases e; rfl
  | _, _, ns, .cons (ds := ds) h r, e => by
    cases h with
    | int i =>
      cases q : Kw.intsOf ds with
      | none => simp [Kw.intsOf, q] at e
      | some ms =>
        simp [Kw.intsOf, q] at e
        subst e
        rw [Rps.intsOf r q]
        rfl
    | _ => simp [Kw.intsOf] at e
theorem Rps.boolsOf : ∀ {ds : List D} {vs : List V} {ns : List Bool}, Rps K w ds vs → boolsOf ds = some ns → vs = ns.map V.bl
  | _, _, _, .nil, e => by cases e; rfl
  | _, _, ns, .cons (ds := ds) h r, e => by
    cases h with
    | bl i =>
      cases q : Kw.boolsOf ds with
      | none => simp [Kw.boolsOf, q] at e
      | some ms =>
        simp [Kw.boolsOf, q] at e
        subst e
        rw [Rps.boolsOf r q]
        rfl
    | _ => simp [Kw.boolsOf] at e
theorem Rps.strsOf : ∀ {ds : List D} {vs : List V} {ns : List Str}, Rps K w ds vs → strsOf ds = some ns → vs = ns.map V.str
  | _, _, _, .nil, e => by cases e; rfl
  | _, _, ns, .cons (ds := ds) h r, e => by
    cases h with
    | str i =>
      cases q : Kw.strsOf ds with
      | none => simp [Kw.strsOf, q] at e
      | some ms =>
        simp [Kw.strsOf, q] at e
        subst e
        rw [Rps.strsOf r q]
        rfl
    | _ => simp [Kw.strsOf] at e
/-! data without addresses, for the library -/
mutual
theorem Rp.dp : ∀ {d : D} {v : V}, d.clean = true → Rp K w d v → Dp K w.H v d.py
  | _, _, _, .non => by simp only [D.py]; exact .non
  | _, _, _, .bl b => by simp only [D.py]; exact .bl b
  | _, _, _, .int i => by simp only [D.py]; exact .int i
  | _, _, _, .str s => by simp only [D.py]; exact .str s
  | _, _, c, .tup h r => by
    simp only [D.py]
    exact .tup h (Rps.dp (by simpa [D.clean] using c) r)
  | _, _, c, .lst h _ r => by
    simp only [D.py]
    exact .lst (.inl (.inl h)) (Rps.dp (by simpa [D.clean] using c) r)
  | _, _, _, .scr (ns := ns) h => by
    simp only [D.py]
    exact .lst h.sq (dpInts ns)
  | _, _, c, .ref _ => by simp [D.clean] at c
theorem Rps.dp : ∀ {ds : List D} {vs : List V}, D.cleans ds = true → Rps K w ds vs → DpAll K w.H vs (D.pys ds)
  | _, _, _, .nil => by simp only [D.pys]; exact .nil
  | _, _, c, .cons h r => by
    simp only [D.cleans, Bool.and_eq_true] at c
    simp only [D.pys]
    exact .cons (Rp.dp c.1 h) (Rps.dp c.2 r)
theorem dpInts {H : Hp} : ∀ ns : List Int, DpAll K H (ns.map V.int) (ns.map PyData.int)
  | [] => .nil
  | n :: ns => .cons (.int n) (dpInts ns)
end
theorem rd_lst (k : Ok K w) {x : D} {ds : List D} (r : Rp K w x v) (e : rd w.st x = .lst ds) : ∃ a vs, v = .ref a ∧ w.H a = some (.lst vs) ∧ Rps K w ds vs := by
  cases r with
  | lst h n r => simp [rd] at e; subst e; exact ⟨_, _, rfl, h, r⟩
  | ref h =>
    rename_i l
    cases q : w.st[l]? with
    | none => simp [rd, q] at e
    | some mo =>
      cases mo with
      | lst xs =>
        simp [rd, q] at e
        subst e
        obtain ⟨_, vs, h1, h2⟩ := k.ob l _ q
        exact ⟨_, vs, rfl, h1, h2⟩
      | _ => simp [rd, q] at e
  | _ => simp [rd] at e
theorem rd_same {x : D} {st : Store} (h : ∀ l, x ≠ .ref l) : rd st x = x := by
  cases x with
  | ref l => exact absurd rfl (h l)
  | _ => rfl
/-- what is read, if it is no list of the store, is the thing itself -/
theorem rd_other {x : D} {st : Store} (h : ∀ ds, rd st x ≠ .lst ds) : rd st x = x := by
  cases x with
  | ref l =>
    unfold rd at h ⊢
    cases q : st[l]? with
    | none => simp [q]
    | some mo =>
      cases mo with
      | lst ds => exact absurd (by simp [q]) (h ds)
      | _ => simp [q]
  | _ => rfl
theorem rd_dp (k : Ok K w) {x : D} (r : Rp K w x v) (c : (rd w.st x).clean = true) : Dp K w.H v (rd w.st x).py := by
  cases q : rd w.st x with
  | lst ds =>
    obtain ⟨a, vs, rfl, h, r'⟩ := rd_lst k r q
    rw [q] at c
    simp only [D.py]
    exact .lst (.inl (.inl h)) (Rps.dp (by simpa [D.clean] using c) r')
  | _ =>
    have e := rd_other (st := w.st) (x := x) (by rw [q]; intro ds z; cases z)
    rw [← q]
    rw [e] at c ⊢
    exact Rp.dp c r
end
mutual
theorem D.und_clean {n : Nat} : ∀ d : D, d.clean = true → d.und n = true
  | .non, _ => rfl
  | .bl _, _ => rfl
  | .int _, _ => rfl
  | .str _, _ => rfl
  | .tup ds, h => by simp only [D.und]; exact D.unds_clean ds (by simpa [D.clean] using h)
  | .lst ds, h => by simp only [D.und]; exact D.unds_clean ds (by simpa [D.clean] using h)
  | .scr _, _ => rfl
  | .ref _, h => by simp [D.clean] at h
theorem D.unds_clean {n : Nat} : ∀ ds : List D, D.cleans ds = true → D.unds n ds = true
  | [], _ => rfl
  | d :: ds, h => by
    simp only [D.cleans, Bool.and_eq_true] at h
    simp only [D.unds, Bool.and_eq_true]
    exact ⟨D.und_clean d h.1, D.unds_clean ds h.2⟩
end
theorem D.unds_append {n : Nat} : ∀ (xs ys : List D), D.unds n (xs ++ ys) = (D.unds n xs && D.unds n ys)
  | [], _ => by simp [D.unds]
  | d :: ds, ys => by simp only [List.cons_append, D.unds, D.unds_append ds ys, Bool.and_assoc]
theorem D.unds_all {n : Nat} : ∀ (xs : List D), D.unds n xs = xs.all (D.und n)
  | [] => rfl
  | d :: ds => by simp only [D.unds, List.all_cons, D.unds_all ds]
theorem D.cleans_all : ∀ (xs : List D), D.cleans xs = xs.all D.clean
  | [] => rfl
  | d :: ds => by simp only [D.cleans, List.all_cons, D.cleans_all ds]
theorem D.pys_map : ∀ (xs : List D), D.pys xs = xs.map D.py
  | [] => rfl
  | d :: ds => by simp only [D.pys, List.map_cons, D.pys_map ds]
theorem unds_of_sub {n : Nat} {xs ys : List D} (h : D.unds n xs = true) (hs : ∀ y ∈ ys, y ∈ xs) : D.unds n ys = true := by
  rw [D.unds_all, List.all_eq_true] at h ⊢
  exact fun y hy => h y (hs y hy)

/-! ### how the world may go on -/
section
variable {K : PySem.W.Frag} {w : Wd} {p : Addr} {o : HO}
theorem Ok.fresh (k : Ok K w) (h : w.H p = none) : ¬ w.live p := fun z => by
  rcases k.obj z with ⟨_, e⟩ | ⟨_, e⟩ <;> (rw [h] at e; cases e)
theorem OR.mono {w' : Wd} {l : Nat} {mo : MO} (k : Ok K w) (le : Le w w') (hl : l < w.st.length) (hH : mo ≠ .dead → w'.H (w.io l) = w.H (w.io l)) (h : OR K w l mo) : OR K w' l mo := by
  cases mo with
  | lst ds =>
    obtain ⟨u, vs, e, r⟩ := h
    exact ⟨u, vs, by rw [le.io l hl, hH (fun z => by cases z)]; exact e, r.mono k le⟩
  | dK kvs =>
    obtain ⟨u, vs, e, r1, r2⟩ := h
    exact ⟨u, vs, by rw [le.io l hl, hH (fun z => by cases z)]; exact e, r1, r2.mono k le⟩
  | dead => trivial
/-- a new thing that is no object of the store -/
def Wd.put (w : Wd) (p : Addr) (o : HO) : Wd := ⟨w.io, w.st, upd w.H p o, w.hid⟩
theorem Wd.put_live {a : Addr} : (w.put p o).live a ↔ w.live a := Iff.rfl
theorem Ok.le_put (k : Ok K w) (h : w.H p = none) : Le w (w.put p o) where
  fr := fun a u e _ => by
    show upd w.H p o a = some u
    rw [upd_ne (ne_of_none e h)]
    exact e
  nl := fun a z => .inl z
  io := fun _ _ => rfl
  len := Nat.le_refl _
  hd := fun a z => ⟨z, by
    obtain ⟨xs, e, ho'⟩ := k.hl a z
    show upd w.H p o a = w.H a
    rw [upd_ne (ne_of_none e h)]⟩
theorem Ok.put (k : Ok K w) (h : w.H p = none) : Ok K (w.put p o) where
  inj := k.inj
  ob := fun l mo e => (k.ob l mo e).mono k (k.le_put h) (List.getElem?_eq_some_iff.mp e).1 fun nd => by
    show upd w.H p o (w.io l) = w.H (w.io l)
    refine upd_ne fun z => ?_
    exact k.fresh h (.inr ⟨l, mo, e, nd, z⟩)
  hl := fun a z => by
    obtain ⟨xs, e, ho'⟩ := k.hl a z
    refine ⟨xs, ?_, ho'⟩
    show upd w.H p o a = _
    rw [upd_ne (ne_of_none e h)]
    exact e
  hn := k.hn
/-- a new object of the store -/
def Wd.new (w : Wd) (p : Addr) (o : HO) (mo : MO) : Wd := ⟨fun l => if l = w.st.length then p else w.io l, w.st ++ [mo], upd w.H p o, w.hid⟩
theorem Wd.new_io {mo : MO} {l : Nat} (h : l < w.st.length) : (w.new p o mo).io l = w.io l := if_neg (Nat.ne_of_lt h)
theorem Wd.new_at {mo : MO} : (w.new p o mo).io w.st.length = p := if_pos rfl
theorem Ok.le_new (k : Ok K w) {mo : MO} (h : w.H p = none) : Le w (w.new p o mo) where
  fr := fun a u e _ => by
    show upd w.H p o a = some u
    rw [upd_ne (ne_of_none e h)]
    exact e
  nl := fun a zz => by
    rcases zz with zz | ⟨l, m, e, nd, z⟩
    · exact .inl (.inl zz)
    by_cases hl : l < w.st.length
    · refine .inl (.inr ⟨l, m, ?_, nd, ?_⟩)
      · have e' : (w.st ++ [mo])[l]? = some m := e
        rwa [List.getElem?_append_left hl] at e'
      · rwa [Wd.new_io hl] at z
    · have hl' : l = w.st.length := by
        have := (List.getElem?_eq_some_iff.mp e).1
        have q : (w.new p o mo).st.length = w.st.length + 1 := by simp [Wd.new]
        omega
      subst hl'
      rw [Wd.new_at] at z
      subst z
      exact .inr h
  io := fun l hl => Wd.new_io hl
  len := by simp [Wd.new]
  hd := fun a z => ⟨z, by
    obtain ⟨xs, e, ho'⟩ := k.hl a z
    show upd w.H p o a = w.H a
    rw [upd_ne (ne_of_none e h)]⟩
theorem Ok.new (k : Ok K w) {mo : MO} (h : w.H p = none) (ho : OR K (w.new p o mo) w.st.length mo) : Ok K (w.new p o mo) := by
  have cs : ∀ {l : Nat} {m : MO}, (w.new p o mo).st[l]? = some m → (l < w.st.length ∧ w.st[l]? = some m) ∨ (l = w.st.length ∧ m = mo) := fun {l m} e => by
    have e' : (w.st ++ [mo])[l]? = some m := e
    by_cases hl : l < w.st.length
    · rw [List.getElem?_append_left hl] at e'
      exact .inl ⟨hl, e'⟩
    · have := (List.getElem?_eq_some_iff.mp e').1
      simp at this
      have hl' : l = w.st.length := by omega
      subst hl'
      simp at e'
      exact .inr ⟨rfl, e'.symm⟩
  refine ⟨fun i j mi mj e1 e2 n1 n2 q => ?_, fun l m e => ?_, fun a z => ?_, fun a l m z e nd => ?_⟩
  · rcases cs e1 with ⟨h1, g1⟩ | ⟨h1, g1⟩ <;> rcases cs e2 with ⟨h2, g2⟩ | ⟨h2, g2⟩
    · rw [Wd.new_io h1, Wd.new_io h2] at q
      exact k.inj i j mi mj g1 g2 n1 n2 q
    · subst h2
      rw [Wd.new_io h1, Wd.new_at] at q
      exact absurd (Or.inr ⟨i, mi, g1, n1, q⟩) (k.fresh h)
    · subst h1
      rw [Wd.new_io h2, Wd.new_at] at q
      exact absurd (Or.inr ⟨j, mj, g2, n2, q.symm⟩) (k.fresh h)
    · rw [h1, h2]
  · rcases cs e with ⟨h1, g1⟩ | ⟨rfl, rfl⟩
    · refine (k.ob l m g1).mono k (k.le_new h) h1 fun nd => ?_
      show upd w.H p o (w.io l) = w.H (w.io l)
      exact upd_ne fun z => k.fresh h (.inr ⟨l, m, g1, nd, z⟩)
    · exact ho
  · obtain ⟨xs, e, ho'⟩ := k.hl a z
    refine ⟨xs, ?_, ho'⟩
    show upd w.H p o a = _
    rw [upd_ne (ne_of_none e h)]
    exact e
  · rcases cs e with ⟨h1, g1⟩ | ⟨h1, g1⟩
    · rw [Wd.new_io h1]
      exact k.hn a l m z g1 nd
    · subst h1
      rw [Wd.new_at]
      rintro rfl
      obtain ⟨xs, e, ho'⟩ := k.hl _ z
      rw [h] at e
      cases e
/-- an object of the store is changed -/
def Wd.chg (w : Wd) (l : Nat) (o : HO) (mo : MO) : Wd := ⟨w.io, w.st.set l mo, upd w.H (w.io l) o, w.hid⟩
theorem Ok.le_chg (k : Ok K w) {l : Nat} {m0 mo : MO} (h : w.st[l]? = some m0) (nd : m0 ≠ .dead) : Le w (w.chg l o mo) where
  fr := fun a u e n => by
    show upd w.H (w.io l) o a = some u
    rw [upd_ne fun z => n (.inr ⟨l, m0, h, nd, z.symm⟩)]
    exact e
  nl := fun a zz => by
    rcases zz with zz | ⟨j, m, e, nd', z⟩
    · exact .inl (.inl zz)
    by_cases hj : j = l
    · subst hj
      exact .inl (.inr ⟨j, m0, h, nd, z⟩)
    · refine .inl (.inr ⟨j, m, ?_, nd', z⟩)
      have e' : (w.st.set l mo)[j]? = some m := e
      rwa [List.getElem?_set_ne (Ne.symm hj)] at e'
  io := fun _ _ => rfl
  len := by simp [Wd.chg]
  hd := fun a z => ⟨z, by
    show upd w.H (w.io l) o a = w.H a
    exact upd_ne fun q => k.hn a l m0 z h nd q.symm⟩
theorem Ok.chg (k : Ok K w) {l : Nat} {m0 mo : MO} (h : w.st[l]? = some m0) (nd : m0 ≠ .dead) (ho : OR K (w.chg l o mo) l mo) : Ok K (w.chg l o mo) := by
  have hl : l < w.st.length := (List.getElem?_eq_some_iff.mp h).1
  have cs : ∀ {j : Nat} {m : MO}, (w.chg l o mo).st[j]? = some m → (j ≠ l ∧ w.st[j]? = some m) ∨ (j = l ∧ m = mo) := fun {j m} e => by
    have e' : (w.st.set l mo)[j]? = some m := e
    by_cases hj : j = l
    · subst hj
      rw [List.getElem?_set_self hl] at e'
      exact .inr ⟨rfl, (Option.some.inj e').symm⟩
    · rw [List.getElem?_set_ne (Ne.symm hj)] at e'
      exact .inl ⟨hj, e'⟩
  refine ⟨fun i j mi mj e1 e2 n1 n2 q => ?_, fun j m e => ?_, fun a z => ?_, fun a j m z e nd' => ?_⟩
  · have q' : w.io i = w.io j := q
    rcases cs e1 with ⟨h1, g1⟩ | ⟨h1, g1⟩ <;> rcases cs e2 with ⟨h2, g2⟩ | ⟨h2, g2⟩
    · exact k.inj i j mi mj g1 g2 n1 n2 q'
    · subst h2
      exact k.inj i j mi m0 g1 h n1 nd q'
    · subst h1
      exact k.inj i j m0 mj h g2 nd n2 q'
    · rw [h1, h2]
  · rcases cs e with ⟨h1, g1⟩ | ⟨rfl, rfl⟩
    · refine (k.ob j m g1).mono k (k.le_chg h nd) (List.getElem?_eq_some_iff.mp g1).1 fun nd' => ?_
      show upd w.H (w.io l) o (w.io j) = w.H (w.io j)
      exact upd_ne fun z => h1 (k.inj j l m m0 g1 h nd' nd z)
    · exact ho
  · obtain ⟨xs, e, ho'⟩ := k.hl a z
    refine ⟨xs, ?_, ho'⟩
    show upd w.H (w.io l) o a = _
    rw [upd_ne fun q => k.hn a l m0 z h nd q.symm]
    exact e
  · rcases cs e with ⟨h1, g1⟩ | ⟨h1, g1⟩
    · exact k.hn a j m z g1 nd'
    · subst h1
      exact k.hn a j m0 z h nd
/-- an object of the store is no more changed -/
def Wd.frz (w : Wd) (l : Nat) : Wd := ⟨w.io, w.st.set l .dead, w.H, w.hid⟩
theorem Wd.frz_live {l : Nat} {a : Addr} (h : (w.frz l).live a) : w.live a := by
  rcases h with h | ⟨j, m, e, nd, z⟩
  · exact .inl h
  have e' : (w.st.set l .dead)[j]? = some m := e
  by_cases hj : j = l
  · subst hj
    have hl : j < (w.st.set j MO.dead).length := (List.getElem?_eq_some_iff.mp e').1
    rw [List.length_set] at hl
    rw [List.getElem?_set_self hl] at e'
    exact absurd (Option.some.inj e').symm nd
  · rw [List.getElem?_set_ne (Ne.symm hj)] at e'
    exact .inr ⟨j, m, e', nd, z⟩
theorem le_frz {l : Nat} : Le w (w.frz l) where
  fr := fun a u e _ => e
  nl := fun a z => .inl (Wd.frz_live z)
  io := fun _ _ => rfl
  len := by simp [Wd.frz]
  hd := fun a z => ⟨z, rfl⟩
theorem Ok.frz (k : Ok K w) (l : Nat) : Ok K (w.frz l) := by
  have cs : ∀ {j : Nat} {m : MO}, (w.frz l).st[j]? = some m → m ≠ .dead → w.st[j]? = some m := fun {j m} e nd => by
    have e' : (w.st.set l .dead)[j]? = some m := e
    by_cases hj : j = l
    · subst hj
      have hl : j < (w.st.set j MO.dead).length := (List.getElem?_eq_some_iff.mp e').1
      rw [List.length_set] at hl
      rw [List.getElem?_set_self hl] at e'
      exact absurd (Option.some.inj e').symm nd
    · rwa [List.getElem?_set_ne (Ne.symm hj)] at e'
  refine ⟨fun i j mi mj e1 e2 n1 n2 q => k.inj i j mi mj (cs e1 n1) (cs e2 n2) n1 n2 q, fun j m e => ?_, k.hl, fun a j m z e nd => k.hn a j m z (cs e nd) nd⟩
  cases m with
  | dead => trivial
  | _ =>
    have g := cs e (fun z => by cases z)
    exact (k.ob j _ g).mono k le_frz (List.getElem?_eq_some_iff.mp g).1 fun _ => rfl
/-- only the first n objects -/
def Wd.cut (w : Wd) (n : Nat) : Wd := ⟨w.io, w.st.take n, w.H, w.hid⟩
theorem Wd.cut_st {n j : Nat} {m : MO} (e : (w.cut n).st[j]? = some m) : j < n ∧ w.st[j]? = some m := by
  have e' : (w.st.take n)[j]? = some m := e
  rw [List.getElem?_take] at e'
  by_cases h : j < n
  · rw [if_pos h] at e'; exact ⟨h, e'⟩
  · rw [if_neg h] at e'; cases e'
mutual
theorem Rp.cut {n : Nat} (hn : n ≤ w.st.length) : ∀ {d : D} {v : V}, d.und n = true → Rp K w d v → Rp K (w.cut n) d v
  | _, _, _, .non => .non
  | _, _, _, .bl b => .bl b
  | _, _, _, .int i => .int i
  | _, _, _, .str s => .str s
  | _, _, u, .tup h r => .tup h (Rps.cut' hn (by simpa [D.und] using u) r)
  | _, _, u, .lst h nl r => .lst h (fun zz => nl (zz.imp id fun ⟨l, m, e, nd, z⟩ => ⟨l, m, (Wd.cut_st e).2, nd, z⟩)) (Rps.cut' hn (by simpa [D.und] using u) r)
  | _, _, _, .scr h => .scr h
  | .ref l, _, u, .ref h => by
    have hl : l < n := by simpa [D.und] using u
    have g : l < (w.cut n).st.length := by show l < (w.st.take n).length; rw [List.length_take]; omega
    exact Rp.ref (K := K) (w := w.cut n) g
theorem Rps.cut' {n : Nat} (hn : n ≤ w.st.length) : ∀ {ds : List D} {vs : List V}, D.unds n ds = true → Rps K w ds vs → Rps K (w.cut n) ds vs
  | _, _, _, .nil => .nil
  | _, _, u, .cons h r => by
    simp only [D.unds, Bool.and_eq_true] at u
    exact .cons (Rp.cut hn u.1 h) (Rps.cut' hn u.2 r)
end
mutual
theorem D.und_le {n m : Nat} (h : n ≤ m) : ∀ d : D, d.und n = true → d.und m = true
  | .non, _ => rfl
  | .bl _, _ => rfl
  | .int _, _ => rfl
  | .str _, _ => rfl
  | .tup ds, u => by simp only [D.und] at u ⊢; exact D.unds_le h ds u
  | .lst ds, u => by simp only [D.und] at u ⊢; exact D.unds_le h ds u
  | .scr _, _ => rfl
  | .ref l, u => by simp only [D.und, decide_eq_true_eq] at u ⊢; omega
theorem D.unds_le {n m : Nat} (h : n ≤ m) : ∀ ds : List D, D.unds n ds = true → D.unds m ds = true
  | [], _ => rfl
  | d :: ds, u => by
    simp only [D.unds, Bool.and_eq_true] at u ⊢
    exact ⟨D.und_le h d u.1, D.unds_le h ds u.2⟩
end
theorem Ok.cut (k : Ok K w) {n : Nat} (hn : n ≤ w.st.length) : Ok K (w.cut n) := by
  refine ⟨fun i j mi mj e1 e2 n1 n2 q => k.inj i j mi mj (Wd.cut_st e1).2 (Wd.cut_st e2).2 n1 n2 q, fun j m e => ?_, k.hl, fun a j m z e nd => k.hn a j m z (Wd.cut_st e).2 nd⟩
  obtain ⟨hj, g⟩ := Wd.cut_st e
  have q := k.ob j m g
  cases m with
  | dead => trivial
  | lst ds =>
    obtain ⟨u, vs, e, r⟩ := q
    exact ⟨u, vs, e, r.cut' hn (D.unds_le (Nat.le_of_lt hj) _ u)⟩
  | dK kvs =>
    obtain ⟨u, vs, e, r1, r2⟩ := q
    exact ⟨u, vs, e, r1, r2.cut' hn (D.unds_le (Nat.le_of_lt hj) _ u)⟩
/-- behind a call: from the call's start -/
theorem Le.cut {w' : Wd} (h : Le w w') : Le w (w'.cut w.st.length) where
  fr := h.fr
  nl := fun a zz => h.nl a (zz.imp id fun ⟨l, m, e, nd, z⟩ => ⟨l, m, (Wd.cut_st e).2, nd, z⟩)
  hd := h.hd
  io := h.io
  len := by show w.st.length ≤ (w'.st.take w.st.length).length; rw [List.length_take]; have := h.len; omega
end
end Kw

set_option Elab.async false
set_option linter.all false
set_option maxRecDepth 100000
/-! Kw: the operators. -/
namespace Kw
open PySem PySem.Spec PyProof.Rows L2

/-- what is wanted behind a value that stands for d, the store then st' -/
def Post (K : PySem.W.Frag) (w : Wd) (d : D) (st' : Store) (Q : VK) : Prop := ∀ w' v, Ok K w' → Le w w' → w'.st = st' → Rp K w' d v → Q v w'.H
theorem Post.same {K : PySem.W.Frag} {w : Wd} {d : D} {Q : VK} {v : V} (p : Post K w d w.st Q) (k : Ok K w) (r : Rp K w d v) : Q v w.H := p w v k (Le.refl w) rfl r
theorem Post.put {K : PySem.W.Frag} {w : Wd} {d : D} {Q : VK} {v : V} {p : Addr} {o : HO} (h : Post K w d w.st Q) (k : Ok K w) (hp : w.H p = none) (r : Rp K (w.put p o) d v) : Q v (upd w.H p o) := h (w.put p o) v (k.put hp) (k.le_put hp) rfl r
theorem Post.mono {K : PySem.W.Frag} {w w1 : Wd} {d : D} {st' : Store} {Q : VK} (h : Post K w d st' Q) (le : Le w w1) : Post K w1 d st' Q := fun w' v k l e r => h w' v k (le.trans l) e r
/-- a new tuple, a new list of such items -/
theorem Post.tup {K : PySem.W.Frag} {w : Wd} {ds : List D} {vs : List V} {Q : VK} {p : Addr} (h : Post K w (.tup ds) w.st Q) (k : Ok K w) (hp : w.H p = none) (r : Rps K w ds vs) : Q (.ref p) (upd w.H p (.tup vs)) :=
  h.put k hp (.tup (.inl (.inl upd_same)) (r.mono k (k.le_put hp)))
theorem Post.lst {K : PySem.W.Frag} {w : Wd} {ds : List D} {vs : List V} {Q : VK} {p : Addr} (h : Post K w (.lst ds) w.st Q) (k : Ok K w) (hp : w.H p = none) (r : Rps K w ds vs) : Q (.ref p) (upd w.H p (.lst vs)) :=
  h.put k hp (.lst (w := w.put p (.lst vs)) upd_same (fun z => k.fresh hp (Wd.put_live.mp z)) (r.mono k (k.le_put hp)))

theorem lim_size {n : Nat} (h : n ≤ LIM) : n ≤ sizeLine := Nat.le_trans h (by decide)
theorem lim_lt {n : Nat} (h : n < LIM) : n < sizeLine := Nat.lt_of_lt_of_le h (by decide)

def Op2 (K : PySem.W.Frag) (f : D → D → Store → Option D) : R2 := fun x y H Q => ∃ w a b d, w.H = H ∧ Ok K w ∧ Rp K w a x ∧ Rp K w b y ∧ f a b w.st = some d ∧ Post K w d w.st Q

section
variable {K : PySem.W.Frag} {w : Wd} {a : D} {x : V} {st : Store}
theorem rd_int {i : Int} (h : rd st a = .int i) : a = .int i := by rw [← h, rd_other (by rw [h]; intro ds z; cases z)]
theorem rd_str {s : Str} (h : rd st a = .str s) : a = .str s := by rw [← h, rd_other (by rw [h]; intro ds z; cases z)]
theorem rd_tup {ds : List D} (h : rd st a = .tup ds) : a = .tup ds := by rw [← h, rd_other (by rw [h]; intro ds z; cases z)]
theorem Rp.int_of {i : Int} (r : Rp K w a x) (h : rd st a = .int i) : x = .int i := by rw [rd_int h] at r; cases r; rfl
theorem Rp.str_of {s : Str} (r : Rp K w a x) (h : rd st a = .str s) : x = .str s := by rw [rd_str h] at r; cases r; rfl
theorem Rp.tup_of {ds : List D} (r : Rp K w a x) (h : rd st a = .tup ds) : ∃ p vs, x = .ref p ∧ SqT K w.H p vs ∧ Rps K w ds vs := by rw [rd_tup h] at r; cases r with | tup h1 h2 => exact ⟨_, _, rfl, h1, h2⟩
end

section
variable {X : Cx}
theorem ints_op {f : Value → Value → Sem Value} {C : Int → Int → Prop} {g : Int → Int → Int} (h : OpR X f (rI C fun i j => .int (g i j))) {pins : List (Addr × Obj)} {s : Shared} {σ : L2.St} {w : Wd} {x y : V} {v u : Value} {Q : VK} {a b : D} {i j : Int}
    (I : Inv X pins σ w.H s) (rx : RelV x v) (ry : RelV y u) (ok : Ok X.K w) (ra : Rp X.K w a x) (rb : Rp X.K w b y) (ha : rd w.st a = .int i) (hb : rd w.st b = .int j) (c : C i j) (p : Post X.K w (.int (g i j)) w.st Q) :
    wpAny (model X.prog X.w) X.A (f v u) (EP X pins σ Q) X.xe s :=
  h pins s σ w.H x y v u Q I rx ry ⟨i, j, ra.int_of ha, rb.int_of hb, c, p.same ok (.int _)⟩
theorem ints_op0 {f : Value → Value → Sem Value} {g : Int → Int → Int} (h : OpR X f (rI0 fun i j => .int (g i j))) {pins : List (Addr × Obj)} {s : Shared} {σ : L2.St} {w : Wd} {x y : V} {v u : Value} {Q : VK} {a b : D} {i j : Int}
    (I : Inv X pins σ w.H s) (rx : RelV x v) (ry : RelV y u) (ok : Ok X.K w) (ra : Rp X.K w a x) (rb : Rp X.K w b y) (ha : rd w.st a = .int i) (hb : rd w.st b = .int j) (p : Post X.K w (.int (g i j)) w.st Q) :
    wpAny (model X.prog X.w) X.A (f v u) (EP X pins σ Q) X.xe s :=
  h pins s σ w.H x y v u Q I rx ry ⟨i, j, ra.int_of ha, rb.int_of hb, p.same ok (.int _)⟩
theorem okMul_c {i j : Int} (h : okMul i j = true) : CMul i j := by
  unfold okMul at h
  simp only [Bool.or_eq_true, Bool.and_eq_true, decide_eq_true_eq] at h
  exact h
theorem mulOk_of {x : Str} {n : Int} (h0 : 0 ≤ n) (h1 : n ≤ 1000) (hx : x.length ≤ 1000) : MulOk x n := by
  refine ⟨?_, fun hn _ hc => ?_, fun _ _ => ?_⟩
  · have e1 : decide (n < -(2 ^ 63 : Int)) = false := decide_eq_false (by omega)
    have e2 : decide (n ≥ 2 ^ 63) = false := decide_eq_false (by omega)
    rw [e1, e2]; rfl
  · have h2 : (9223372036854775 : Int) ≤ (2 ^ 63 - 1) / n := by
      refine Int.le_ediv_of_mul_le (by omega) ?_
      have : (9223372036854775 : Int) * n ≤ 9223372036854775 * 1000 := Int.mul_le_mul_of_nonneg_left h1 (by decide)
      omega
    omega
  · have h3 : x.length * n.toNat ≤ 1000 * 1000 := Nat.mul_le_mul hx (by omega)
    unfold Builtin.Str.tooLong
    apply decide_eq_false
    have : sizeLine = 16777216 := sizeLine_eq
    omega
/-- a op b -/
theorem op_bin (op : Operator) : OpR X (binaryOp op) (Op2 X.K fun a b st => binD op (rd st a) (rd st b)) := by
  rintro pins s σ H x y v u Q I rx ry ⟨w, a, b, d, rfl, ok, ra, rb, e0, post⟩
  have e : binD op (rd w.st a) (rd w.st b) = some d := e0
  clear e0
  generalize ha : rd w.st a = a' at e
  generalize hb : rd w.st b = b' at e
  unfold binD at e
  split at e
  · cases e; exact ints_op0 op_add I rx ry ok ra rb ha hb post
  · rename_i a1 b1
    split at e
    · rename_i hl
      cases e
      have e1 := ra.str_of ha
      have e2 := rb.str_of hb
      exact op_add_str pins s σ w.H x y v u Q I rx ry ⟨_, _, e1, e2, lim_size hl, post.same ok (.str _)⟩
    · cases e
  · rename_i a1 b1
    split at e
    · rename_i hl
      cases e
      obtain ⟨p, vs, rfl, h1, r1⟩ := rd_lst ok ra ha
      obtain ⟨q, us, rfl, h2, r2⟩ := rd_lst ok rb hb
      exact op_cat pins s σ w.H _ _ v u Q I rx ry ⟨p, q, vs, us, rfl, rfl, h1, h2, by rw [r1.length, r2.length]; exact lim_size hl, fun p' np => post.lst ok np (r1.append r2)⟩
    · cases e
  · rename_i a1 b1
    split at e
    · rename_i hl
      cases e
      obtain ⟨p, vs, rfl, h1, r1⟩ := ra.tup_of ha
      obtain ⟨q, us, rfl, h2, r2⟩ := rb.tup_of hb
      refine op_catA pins s σ w.H _ _ v u Q I rx ry ⟨p, q, vs, us, rfl, rfl, h1, h2, by rw [r1.length, r2.length]; exact lim_size hl, fun z => ?_, fun _ z => ?_, fun _ _ p' np => post.tup ok np (r1.append r2)⟩
      · subst z
        cases r1
        exact post.same ok (.tup h2 r2)
      · subst z
        cases r2
        exact post.same ok (.tup h1 (by simpa using r1))
    · cases e
  · cases e; exact ints_op0 op_sub I rx ry ok ra rb ha hb post
  · split at e
    · rename_i hc
      cases e; exact ints_op op_mul I rx ry ok ra rb ha hb (okMul_c hc) post
    · cases e
  · rename_i a1 k
    split at e
    · rename_i hl
      cases e
      obtain ⟨p, vs, rfl, h1, r1⟩ := rd_lst ok ra ha
      exact op_rep pins s σ w.H _ _ v u Q I rx ry ⟨p, k, vs, rfl, rb.int_of hb, h1, by omega, by omega, by rw [r1.length]; exact lim_size hl.2.2, fun p' np => post.lst ok np (r1.rep _)⟩
    · cases e
  · rename_i a1 k
    split at e
    · rename_i hl
      cases e
      have e1 := ra.str_of ha
      have e2 := rb.int_of hb
      subst e1 e2
      obtain ⟨t, rfl⟩ := rx
      obtain ⟨t', rfl⟩ := ry
      exact SB.mul (mulOk_of hl.1 hl.2.1 hl.2.2) fun t2 k2 => ⟨.str _, w.H, I.tok _, ⟨_, rfl⟩, post.same ok (.str _)⟩
    · cases e
  · split at e
    · rename_i hc
      cases e; exact ints_op op_mod I rx ry ok ra rb ha hb hc post
    · cases e
  · split at e
    · rename_i hc
      cases e; exact ints_op op_fdiv I rx ry ok ra rb ha hb hc post
    · cases e
  · split at e
    · rename_i hc
      cases e; exact ints_op (C := CPow) (g := fun i j => i ^ j.toNat) op_pow I rx ry ok ra rb ha hb hc post
    · cases e
  · split at e
    · rename_i hc
      cases e; exact ints_op (C := CShl) (g := fun i j => i * 2 ^ j.toNat) op_shlW I rx ry ok ra rb ha hb hc post
    · cases e
  · split at e
    · rename_i hc
      cases e; exact ints_op (C := fun _ j => 0 ≤ j) (g := fun i j => i / 2 ^ j.toNat) op_shr I rx ry ok ra rb ha hb hc post
    · cases e
  · cases e; exact ints_op0 op_and I rx ry ok ra rb ha hb post
  · cases e; exact ints_op0 op_or I rx ry ok ra rb ha hb post
  · cases e; exact ints_op0 op_xor I rx ry ok ra rb ha hb post
  · cases e
/-- x op= y, ints -/
theorem op_aug (op : Operator) (hp : op ≠ .Pow) {i j : Int} {d : D} (e : binD op (.int i) (.int j) = some d) {pins : List (Addr × Obj)} {s : Shared} {σ : L2.St} {w : Wd} {v u : Value} {Q : VK}
    (I : Inv X pins σ w.H s) (rx : RelV (.int i) v) (ry : RelV (.int j) u) (ok : Ok X.K w) (post : Post X.K w d w.st Q) : wpAny (model X.prog X.w) X.A (inplaceOp op v u) (EP X pins σ Q) X.xe s := by
  have ra : Rp X.K w (.int i) (.int i) := .int i
  have rb : Rp X.K w (.int j) (.int j) := .int j
  unfold binD at e
  split at e
  · rename_i e1 e2; cases e; cases e1; cases e2; exact ints_op0 iop_add I rx ry ok ra rb rfl rfl post
  · rename_i e1 e2; cases e1
  · rename_i e1 e2; cases e1
  · rename_i e1 e2; cases e1
  · rename_i e1 e2; cases e; cases e1; cases e2; exact ints_op0 iop_sub I rx ry ok ra rb rfl rfl post
  · rename_i e1 e2
    split at e
    · rename_i hc
      cases e; cases e1; cases e2; exact ints_op iop_mul I rx ry ok ra rb rfl rfl (okMul_c hc) post
    · cases e
  · rename_i e1 e2; cases e1
  · rename_i e1 e2; cases e1
  · rename_i e1 e2
    split at e
    · rename_i hc
      cases e; cases e1; cases e2; exact ints_op iop_mod I rx ry ok ra rb rfl rfl hc post
    · cases e
  · rename_i e1 e2
    split at e
    · rename_i hc
      cases e; cases e1; cases e2; exact ints_op iop_fdiv I rx ry ok ra rb rfl rfl hc post
    · cases e
  · exact absurd rfl hp
  · rename_i e1 e2
    split at e
    · rename_i hc
      cases e; cases e1; cases e2; exact ints_op (C := CShl) (g := fun i j => i * 2 ^ j.toNat) iop_shlW I rx ry ok ra rb rfl rfl hc post
    · cases e
  · rename_i e1 e2
    split at e
    · rename_i hc
      cases e; cases e1; cases e2; exact ints_op (C := fun _ j => 0 ≤ j) (g := fun i j => i / 2 ^ j.toNat) iop_shr I rx ry ok ra rb rfl rfl hc post
    · cases e
  · rename_i e1 e2; cases e; cases e1; cases e2; exact ints_op0 iop_and I rx ry ok ra rb rfl rfl post
  · rename_i e1 e2; cases e; cases e1; cases e2; exact ints_op0 iop_or I rx ry ok ra rb rfl rfl post
  · rename_i e1 e2; cases e; cases e1; cases e2; exact ints_op0 iop_xor I rx ry ok ra rb rfl rfl post
  · cases e
end
end Kw

set_option Elab.async false
set_option linter.all false
set_option maxRecDepth 100000
/-! Kw: comparisons, subscripts, slices. -/
namespace Kw
open PySem PySem.Spec PyProof.Rows L2

section
variable {K : PySem.W.Frag} {w : Wd} {a : D} {x : V} {st : Store}
theorem eqOk_c {d : D} (h : eqOk d = true) : d.clean = true ∧ SeqAt.shaped d.py = true := by
  unfold eqOk at h
  simpa using h
theorem Rp.key_of (r : Rp K w a x) {k : L2.Key} (h : a.key = some k) : x = kV k := by
  cases r with
  | int i => simp [D.key] at h; subst h; rfl
  | str s => simp [D.key] at h; subst h; rfl
  | _ => simp [D.key] at h
theorem RpK.look {kvs : List (L2.Key × D)} : ∀ {ws : List (L2.Key × V)}, RpK K w kvs ws → ∀ k, (∀ d, lookK kvs k = some d → ∃ v, valV ws k = some v ∧ Rp K w d v) ∧ (lookK kvs k = none → valV ws k = none) := by
  induction kvs with
  | nil =>
    intro ws h k
    have e : ws = [] := by simpa using h.1
    subst e
    exact ⟨fun d z => by simp [lookK] at z, fun _ => rfl⟩
  | cons p r ih =>
    intro ws h k
    cases ws with
    | nil => have := h.1; simp at this
    | cons q ws =>
      obtain ⟨h1, h2⟩ := h
      simp only [List.map_cons, List.cons.injEq] at h1
      cases h2 with
      | cons g1 g2 =>
        have ih' := ih (ws := ws) ⟨h1.2, g2⟩ k
        unfold lookK valV at *
        rw [List.find?_cons, List.find?_cons, h1.1]
        by_cases e : p.1 = k
        · simp only [e, decide_true, Option.map_some]
          exact ⟨fun d z => ⟨q.2, rfl, by cases z; exact g1⟩, fun z => by cases z⟩
        · simp only [e, decide_false]
          exact ih'
theorem RpK.isSome {kvs : List (L2.Key × D)} {ws : List (L2.Key × V)} (h : RpK K w kvs ws) (k : L2.Key) : (valV ws k).isSome = kvs.any fun p => decide (p.1 = k) := by
  obtain ⟨h1, h2⟩ := h.look k
  cases e : lookK kvs k with
  | none =>
    rw [h2 e]
    symm
    rw [Option.isSome_none, List.any_eq_false]
    intro p hp
    unfold lookK at e
    rw [Option.map_eq_none_iff, List.find?_eq_none] at e
    exact e p hp
  | some d =>
    obtain ⟨v, hv, _⟩ := h1 d e
    rw [hv]
    symm
    rw [Option.isSome_some, List.any_eq_true]
    unfold lookK at e
    rw [Option.map_eq_some_iff] at e
    obtain ⟨p, hp, _⟩ := e
    exact ⟨p, List.mem_of_find?_eq_some hp, by simpa using List.find?_some hp⟩
end

section
variable {X : Cx} {pins : List (Addr × Obj)} {s : Shared} {σ : L2.St} {w : Wd} {a b : D} {x y : V} {v u : Value} {Q : VK}
/-- what leads to a truth -/
abbrev Goes (X : Cx) (pins : List (Addr × Obj)) (σ : L2.St) (t : Sem Value) (Q : VK) (s : Shared) : Prop := wpAny (model X.prog X.w) X.A t (EP X pins σ Q) X.xe s

theorem in_seq (hu : X.A.units + 65 < cLine) {neg : Bool} {c : Bool} (I : Inv X pins σ w.H s) (rx : RelV x v) (ry : RelV y u) (ok : Ok X.K w) (ra : Rp X.K w a x) (rb : Rp X.K w b y) (e : inD (rd w.st a) (rd w.st b) = some c)
    (q : Q (.bl (if neg then !c else c)) w.H) : Goes X pins σ (compareOp (if neg then .NotIn else .In) v u) Q s := by
  generalize ha : rd w.st a = a' at e
  generalize hb : rd w.st b = b' at e
  unfold inD at e
  split at e
  · cases e
    have e1 := ra.str_of ha
    have e2 := rb.str_of hb
    cases neg
    · exact op_in_str pins s σ w.H x y v u Q I rx ry ⟨_, _, e1, e2, q⟩
    · exact op_notin_str pins s σ w.H x y v u Q I rx ry ⟨_, _, e1, e2, q⟩
  · rename_i xx ds
    split at e
    · rename_i hc
      cases e
      simp only [Bool.and_eq_true] at hc
      obtain ⟨c1, s1⟩ := eqOk_c hc.1
      obtain ⟨c2, s2⟩ := eqOk_c hc.2
      have d1 : Dp X.K w.H x a'.py := by rw [← ha]; exact rd_dp ok ra (by rw [ha]; exact c1)
      have d2 : Dp X.K w.H y (D.py (.lst ds)) := by rw [← hb]; exact rd_dp ok rb (by rw [hb]; exact c2)
      have e3 : (ds.any fun z => PyData.eqv z.py a'.py) = ((D.pys ds).any fun z => PyData.eqv z a'.py) := by rw [D.pys_map, List.any_map]; rfl
      simp only [D.py] at d2 s2
      rw [e3] at q
      cases neg
      · exact op_inD hu pins s σ w.H x y v u Q I rx ry ⟨_, _, d1, d2, s1, s2, q⟩
      · exact op_notInD hu pins s σ w.H x y v u Q I rx ry ⟨_, _, d1, d2, s1, s2, q⟩
    · cases e
  · rename_i xx ds
    split at e
    · rename_i hc
      cases e
      simp only [Bool.and_eq_true] at hc
      obtain ⟨c1, s1⟩ := eqOk_c hc.1
      obtain ⟨c2, s2⟩ := eqOk_c hc.2
      have d1 : Dp X.K w.H x a'.py := by rw [← ha]; exact rd_dp ok ra (by rw [ha]; exact c1)
      have d2 : Dp X.K w.H y (D.py (.tup ds)) := by rw [← hb]; exact rd_dp ok rb (by rw [hb]; exact c2)
      have e3 : (ds.any fun z => PyData.eqv z.py a'.py) = ((D.pys ds).any fun z => PyData.eqv z a'.py) := by rw [D.pys_map, List.any_map]; rfl
      simp only [D.py] at d2 s2
      rw [e3] at q
      obtain ⟨as, r1⟩ := Dp.reads I _ x v d1 rx
      obtain ⟨bs, r2⟩ := Dp.reads I _ y u d2 ry
      cases neg
      · exact SeqAt.in_tuple_reads r2 r1 (SeqAt.canLay_of_shaped s2) (SeqAt.canLay_of_shaped s1) (room_in_shaped s1 hu) ⟨.bl _, w.H, I, rfl, q⟩
      · exact SeqAt.notIn_tuple_reads r2 r1 (SeqAt.canLay_of_shaped s2) (SeqAt.canLay_of_shaped s1) (room_in_shaped s1 hu) ⟨.bl _, w.H, I, rfl, q⟩
    · cases e
  · cases e
theorem reads_of {d : D} (I : Inv X pins σ w.H s) (rx : RelV x v) (ok : Ok X.K w) (ra : Rp X.K w d x) (c : d.clean = true) : ∃ as, Reads s.heap v d.py as := Dp.reads I _ x v (Rp.dp c ra) rx
theorem depth_room {d e : PyData} (hd : SeqAt.shaped d = true) (hu : X.A.units + 65 < cLine) : X.A.units + min d.depth e.depth < cLine := by
  have h1 := SeqAt.depth_of_shaped hd
  have h2 : min d.depth e.depth ≤ d.depth := Nat.min_le_left _ _
  omega
theorem alike_comm' {x y : PyData} (h : PySem.W.alike x y = true) : PySem.W.alike y x = true := by rw [PySem.W.alike_comm]; exact h

/-- < and its kin: the law of the model for each is asked by 'kin' -/
theorem lt_core (hu : X.A.units + 65 < cLine) {c : Bool} (I : Inv X pins σ w.H s) (rx : RelV x v) (ry : RelV y u) (ok : Ok X.K w) (ra : Rp X.K w a x) (rb : Rp X.K w b y) (e : ltD a b = some c) (q : Q (.bl c) w.H) :
    Goes X pins σ (compareOp .Lt v u) Q s := by
  unfold ltD at e
  split at e
  · cases e
    cases ra; cases rb
    exact op_lt pins s σ w.H _ _ v u Q I rx ry ⟨_, _, rfl, rfl, q⟩
  · cases e
    cases ra; cases rb
    exact op_lt_str pins s σ w.H _ _ v u Q I rx ry ⟨_, _, rfl, rfl, q⟩
  · rename_i a' b'
    split at e
    · rename_i hc
      cases e
      simp only [Bool.and_eq_true] at hc
      obtain ⟨c1, s1⟩ := eqOk_c hc.1.1
      obtain ⟨c2, s2⟩ := eqOk_c hc.1.2
      obtain ⟨as, r1⟩ := reads_of I rx ok ra c1
      obtain ⟨bs, r2⟩ := reads_of I ry ok rb c2
      exact PySem.W.lt_data r1 r2 hc.2 (by simp [D.py]) (depth_room s1 hu) ⟨.bl _, w.H, I, rfl, q⟩
    · cases e
  · cases e
theorem gt_core (hu : X.A.units + 65 < cLine) {c : Bool} (I : Inv X pins σ w.H s) (rx : RelV x v) (ry : RelV y u) (ok : Ok X.K w) (ra : Rp X.K w a x) (rb : Rp X.K w b y) (e : ltD b a = some c) (q : Q (.bl c) w.H) :
    Goes X pins σ (compareOp .Gt v u) Q s := by
  unfold ltD at e
  split at e
  · cases e
    cases ra; cases rb
    exact op_gt pins s σ w.H _ _ v u Q I rx ry ⟨_, _, rfl, rfl, q⟩
  · cases e
    cases ra; cases rb
    exact op_gt_str pins s σ w.H _ _ v u Q I rx ry ⟨_, _, rfl, rfl, q⟩
  · rename_i a' b'
    split at e
    · rename_i hc
      cases e
      simp only [Bool.and_eq_true] at hc
      obtain ⟨c1, s1⟩ := eqOk_c hc.1.1
      obtain ⟨c2, s2⟩ := eqOk_c hc.1.2
      obtain ⟨as, r1⟩ := reads_of I rx ok ra c2
      obtain ⟨bs, r2⟩ := reads_of I ry ok rb c1
      exact PySem.W.gt_data r1 r2 (alike_comm' hc.2) (by simp [D.py]) (depth_room s2 hu) ⟨.bl _, w.H, I, rfl, q⟩
    · cases e
  · cases e
theorem not_lt_le (i j : Int) : (!decide (j < i)) = decide (i ≤ j) := by
  by_cases h : j < i
  · rw [decide_eq_true h, decide_eq_false (by omega)]; rfl
  · rw [decide_eq_false h, decide_eq_true (by omega)]; rfl
theorem le_core (hu : X.A.units + 65 < cLine) {c : Bool} (I : Inv X pins σ w.H s) (rx : RelV x v) (ry : RelV y u) (ok : Ok X.K w) (ra : Rp X.K w a x) (rb : Rp X.K w b y) (e : ltD b a = some c) (q : Q (.bl (!c)) w.H) :
    Goes X pins σ (compareOp .LtE v u) Q s := by
  unfold ltD at e
  split at e
  · cases e
    cases ra; cases rb
    rw [not_lt_le] at q
    exact op_le pins s σ w.H _ _ v u Q I rx ry ⟨_, _, rfl, rfl, q⟩
  · cases e
    cases ra; cases rb
    exact op_le_str pins s σ w.H _ _ v u Q I rx ry ⟨_, _, rfl, rfl, q⟩
  · rename_i a' b'
    split at e
    · rename_i hc
      cases e
      simp only [Bool.and_eq_true] at hc
      obtain ⟨c1, s1⟩ := eqOk_c hc.1.1
      obtain ⟨c2, s2⟩ := eqOk_c hc.1.2
      obtain ⟨as, r1⟩ := reads_of I rx ok ra c2
      obtain ⟨bs, r2⟩ := reads_of I ry ok rb c1
      exact PySem.W.le_data r1 r2 (alike_comm' hc.2) (by simp [D.py]) (depth_room s2 hu) ⟨.bl _, w.H, I, rfl, q⟩
    · cases e
  · cases e
theorem ge_core (hu : X.A.units + 65 < cLine) {c : Bool} (I : Inv X pins σ w.H s) (rx : RelV x v) (ry : RelV y u) (ok : Ok X.K w) (ra : Rp X.K w a x) (rb : Rp X.K w b y) (e : ltD a b = some c) (q : Q (.bl (!c)) w.H) :
    Goes X pins σ (compareOp .GtE v u) Q s := by
  unfold ltD at e
  split at e
  · cases e
    cases ra; cases rb
    rw [not_lt_le] at q
    exact op_ge pins s σ w.H _ _ v u Q I rx ry ⟨_, _, rfl, rfl, q⟩
  · cases e
    cases ra; cases rb
    exact op_ge_str pins s σ w.H _ _ v u Q I rx ry ⟨_, _, rfl, rfl, q⟩
  · rename_i a' b'
    split at e
    · rename_i hc
      cases e
      simp only [Bool.and_eq_true] at hc
      obtain ⟨c1, s1⟩ := eqOk_c hc.1.1
      obtain ⟨c2, s2⟩ := eqOk_c hc.1.2
      obtain ⟨as, r1⟩ := reads_of I rx ok ra c1
      obtain ⟨bs, r2⟩ := reads_of I ry ok rb c2
      exact PySem.W.ge_data r1 r2 hc.2 (by simp [D.py]) (depth_room s1 hu) ⟨.bl _, w.H, I, rfl, q⟩
    · cases e
  · cases e
/-- k in d -/
theorem in_key (hu : X.A.units + 65 < cLine) {neg : Bool} {c : Bool} (I : Inv X pins σ w.H s) (rx : RelV x v) (ry : RelV y u) (ok : Ok X.K w) (ra : Rp X.K w a x) (rb : Rp X.K w b y) (e : inK w.st a b = some c)
    (q : Q (.bl (if neg then !c else c)) w.H) : Goes X pins σ (compareOp (if neg then .NotIn else .In) v u) Q s := by
  unfold inK at e
  split at e
  · rename_i k l hk
    split at e
    · rename_i kvs hl
      cases e
      have ex := ra.key_of hk
      subst ex
      cases rb with
      | ref hb =>
        obtain ⟨_, ws, hd, rk⟩ := ok.ob l _ hl
        cases (show u = Value.ref (w.io l) from ry)
        have g : DGet w.H (w.io l) (kV k) (valV ws k) := DGet.k hd
        rw [← rk.isSome k] at q
        cases neg
        · exact d_in (by omega) I g rx fun s3 I3 => ⟨.bl _, w.H, I3, rfl, q⟩
        · exact d_notIn (by omega) I g rx fun s3 I3 => ⟨.bl _, w.H, I3, rfl, q⟩
    · cases e
  · cases e
theorem eq_core (hu : X.A.units + 65 < cLine) {neg : Bool} (I : Inv X pins σ w.H s) (rx : RelV x v) (ry : RelV y u) (ok : Ok X.K w) (ra : Rp X.K w a x) (rb : Rp X.K w b y) (ea : eqOk (rd w.st a) = true) (eb : eqOk (rd w.st b) = true)
    (q : Q (.bl (if neg then !PyData.eqv (rd w.st a).py (rd w.st b).py else PyData.eqv (rd w.st a).py (rd w.st b).py)) w.H) : Goes X pins σ (compareOp (if neg then .NotEq else .Eq) v u) Q s := by
  obtain ⟨c1, s1⟩ := eqOk_c ea
  obtain ⟨c2, s2⟩ := eqOk_c eb
  cases neg
  · exact op_eqD (by omega) pins s σ w.H x y v u Q I rx ry ⟨_, _, rd_dp ok ra c1, rd_dp ok rb c2, s1, s2, q⟩
  · exact op_neD (by omega) pins s σ w.H x y v u Q I rx ry ⟨_, _, rd_dp ok ra c1, rd_dp ok rb c2, s1, s2, q⟩
theorem op_cmp (hu : X.A.units + 65 < cLine) (op : CmpOp) : OpR X (compareOp op) (Op2 X.K fun a b st => (cmpD op st a b).map D.bl) := by
  rintro pins s σ H x y v u Q I rx ry ⟨w, a, b, d, rfl, ok, ra, rb, e0, post⟩
  have e : (cmpD op w.st a b).map D.bl = some d := e0
  clear e0
  rw [Option.map_eq_some_iff] at e
  obtain ⟨c, e, rfl⟩ := e
  have q : Q (.bl c) w.H := post.same ok (.bl c)
  cases op with
  | Eq =>
    simp only [cmpD] at e
    split at e
    · rename_i h
      cases e
      rw [Bool.and_eq_true] at h
      exact eq_core (neg := false) hu I rx ry ok ra rb h.1 h.2 q
    · cases e
  | NotEq =>
    simp only [cmpD] at e
    split at e
    · rename_i h
      cases e
      rw [Bool.and_eq_true] at h
      exact eq_core (neg := true) hu I rx ry ok ra rb h.1 h.2 q
    · cases e
  | Lt => exact lt_core hu I rx ry ok ra rb e q
  | Gt => exact gt_core hu I rx ry ok ra rb e q
  | LtE =>
    simp only [cmpD, Option.map_eq_some_iff] at e
    obtain ⟨c', e, rfl⟩ := e
    exact le_core hu I rx ry ok ra rb e q
  | GtE =>
    simp only [cmpD, Option.map_eq_some_iff] at e
    obtain ⟨c', e, rfl⟩ := e
    exact ge_core hu I rx ry ok ra rb e q
  | In =>
    simp only [cmpD] at e
    split at e
    · rename_i h
      cases e
      exact in_key (neg := false) hu I rx ry ok ra rb h q
    · exact in_seq (neg := false) hu I rx ry ok ra rb e q
  | NotIn =>
    simp only [cmpD, Option.map_eq_some_iff] at e
    obtain ⟨c', e, rfl⟩ := e
    split at e
    · rename_i h
      cases e
      exact in_key (neg := true) hu I rx ry ok ra rb h q
    · exact in_seq (neg := true) hu I rx ry ok ra rb e q
  | Is =>
    simp only [cmpD] at e
    split at e <;> first
      | (cases e; cases ra; cases rb; exact op_isN pins s σ w.H _ _ v u Q I rx ry ⟨rfl, by simpa using q⟩)
      | cases e
  | IsNot =>
    simp only [cmpD] at e
    split at e <;> first
      | (cases e; cases ra; cases rb; exact op_notN pins s σ w.H _ _ v u Q I rx ry ⟨rfl, by simpa using q⟩)
      | cases e

/-! ### subscripts -/
theorem ix_of (hu : X.A.units + 65 < cLine) : IxR X (Op2 X.K fun a b st => ixD st a b) := by
  rintro value slice pins s σ H x y v u Q I rx ry ⟨w, a, b, d, rfl, ok, ra, rb, e0, post⟩ hs
  have e : ixD w.st a b = some d := e0
  clear e0
  unfold ixD at e
  split at e
  · rename_i ds i
    cases rb
    cases ra with
    | lst h n r =>
      obtain ⟨v', h1, h2⟩ := r.at e
      exact ix_list value slice pins s σ w.H _ _ v u Q I rx ry ⟨_, _, i, v', rfl, rfl, .inl (.inl h), h1, post.same ok h2⟩ hs
  · rename_i ds i
    cases rb
    cases ra with
    | tup h r =>
      obtain ⟨v', h1, h2⟩ := r.at e
      exact ix_tup value slice pins s σ w.H _ _ v u Q I rx ry ⟨_, _, i, v', rfl, rfl, h, h1, post.same ok h2⟩ hs
  · rename_i ns i
    cases rb
    cases ra with
    | scr h =>
      rw [Option.map_eq_some_iff] at e
      obtain ⟨n, e, rfl⟩ := e
      have r : Rps X.K w (ns.map D.int) (ns.map V.int) := Rps.ints ns
      have e' : atI (ns.map V.int) i = some (.int n) := by
        unfold atI at e ⊢
        rw [List.length_map]
        cases q : ixN ns.length i with
        | none => rw [q] at e; cases e
        | some j =>
          rw [q] at e
          have e : ns[j]? = some n := e
          show (ns.map V.int)[j]? = some (.int n)
          rw [List.getElem?_map, e]; rfl
      exact ix_list value slice pins s σ w.H _ _ v u Q I rx ry ⟨_, _, i, _, rfl, rfl, h.sq, e', post.same ok (.int n)⟩ hs
  · rename_i z i
    split at e
    · rename_i hl
      cases rb
      cases ra
      rw [Option.map_eq_some_iff] at e
      obtain ⟨c, e, rfl⟩ := e
      exact ix_str value slice pins s σ w.H _ _ v u Q I rx ry ⟨z, i, c, rfl, rfl, lim_size hl, e, post.same ok (.str _)⟩ hs
    · cases e
  · rename_i y' l
    cases ra with
    | ref hl =>
      split at e
      · rename_i ds hd
        split at e
        · rename_i i
          cases rb
          obtain ⟨_, vs, h, r⟩ := ok.ob l _ hd
          obtain ⟨v', h1, h2⟩ := r.at e
          exact ix_list value slice pins s σ w.H _ _ v u Q I rx ry ⟨_, _, i, v', rfl, rfl, .inl (.inl h), h1, post.same ok h2⟩ hs
        · cases e
      · rename_i kvs hd
        split at e
        · rename_i k hk
          have ey := rb.key_of hk
          subst ey
          obtain ⟨_, ws, h, rk⟩ := ok.ob l _ hd
          obtain ⟨v', h1, h2⟩ := (rk.look k).1 d e
          cases (show v = Value.ref (w.io l) from rx)
          have hD : IsD w.H (w.io l) := .inl ⟨ws, .inl h⟩
          obtain ⟨t1, _, _⟩ := isD_at I hD
          have g : DGet w.H (w.io l) (kV k) (some v') := by rw [← h1]; exact DGet.k h
          exact tail_any t1 slot_dict_getitem.lookup (d_getItem (by omega) I g ry fun w' s' I' rw' => ⟨v', w.H, I', rw', post.same ok h2⟩) hs
        · cases e
      · cases e
  · cases e
theorem sl_of : SlR X (fun x lo hi H Q => ∃ w a d, w.H = H ∧ Ok X.K w ∧ Rp X.K w a x ∧ slD (rd w.st a) lo hi = some d ∧ Post X.K w d w.st Q) := by
  rintro pins s σ H x v vl vu lo hi sl Q I rx hsl pl pu ⟨w, a, d, rfl, ok, ra, e, post⟩
  generalize ha : rd w.st a = a' at e
  unfold slD at e
  split at e
  · cases e
    obtain ⟨p, vs, rfl, h, r⟩ := rd_lst ok ra ha
    exact sl_list pins s σ w.H _ v vl vu lo hi sl Q I rx hsl pl pu ⟨p, vs, rfl, .inl (.inl h), fun p' np => post.lst ok np (r.cut lo hi)⟩
  · cases e
    obtain ⟨p, vs, rfl, h, r⟩ := ra.tup_of ha
    refine sl_tupA pins s σ w.H _ v vl vu lo hi sl Q I rx hsl pl pu ⟨p, vs, rfl, h, fun hw => post.same ok (.tup h ?_), fun _ p' np => post.tup ok np (r.cut lo hi)⟩
    have e1 := r.cut lo hi
    rw [r.length] at hw
    unfold cutL
    rw [hw.1, hw.2]
    simpa using r
  · split at e
    · rename_i z hl
      cases e
      have ex := ra.str_of ha
      exact sl_str pins s σ w.H _ v vl vu lo hi sl Q I rx hsl pl pu ⟨z, ex, lim_size hl, post.same ok (.str _)⟩
    · cases e
  · cases e
end
end Kw

set_option Elab.async false
set_option linter.all false
set_option maxRecDepth 100000
/-! Kw: sorted of alike data, of a list or a tuple, any length. -/
namespace Kw
open PySem PySem.Spec PyProof.Rows L2 PySem.W PySem.Calls

section
variable {prog : Program} {w : World} {A : Around} {E : Value → Shared → Prop} {s : Shared}
theorem sorted_seq {l : Addr} {T : String} {o : Obj} {items : Array Value} {n : Nat} {bs : List D} {R : Value → D → Prop} {Q : Value → Shared → Prop} (hT : T = "list" ∨ T = "tuple") (ho : s.heap.get? l = some o) (hc : o.cls = .type T) (hd : o.data = .seq items n)
    (e : EachIs R items.toList bs) (er : EachIs (fun v b => ∃ as, Reads s.heap v (D.py b) as) items.toList bs) (hal : AllAlike (bs.map D.py)) (hk : Sortable (bs.map D.py)) (hL : bs.length ≤ sizeLine)
    (hu : ∀ b, b ∈ bs → A.units + 2 + (D.py b).depth < cLine)
    (h : ∀ (h1 h' : Heap) (out : List Value) (ep : Nat), (∀ b o', s.heap.get? b = some o' → h1.get? b = some o') → (∀ b o', h1.get? b = some o' → h'.get? b = some o') → h'.get? h1.objs.size = some (seqObj "list" out.toArray ep) → EachIs R out (bs.mergeSort (dataLe false D.py)) → Q (.ref h1.objs.size) { s with heap := h' }) :
    wpAny (model prog w) A (call (.builtin "sorted") [.ref l]) Q E s := by
  have hlen : items.toList.length = bs.length := e.length
  have hsz : items.size ≤ sizeLine := by rw [← Array.length_toList, hlen]; exact hL
  refine call_function_entry_kw kind_sorted plain_sorted entry_sorted (args_sorted1 _) ?_
  unfold Builtin.«sorted»
  refine wpAny_bind (m := checkCount "sorted" 1 1 _) (wpAny_pure ?_)
  refine wpAny_bind (wpAny_collect_seq l hT ho hc hd (fun h1 k1 => ?_) hsz)
  refine wpAny_bind (wpAny_newList ?_ (by rw [hlen]; exact hL))
  have k2 : ∀ b o', h1.get? b = some o' → (h1.push (seqObj "list" items.toList.toArray 0)).get? b = some o' := fun b o' q => Heap.get?_push_of_some _ q
  have hat : (h1.push (seqObj "list" items.toList.toArray 0)).get? h1.objs.size = some (seqObj "list" items.toList.toArray 0) := Heap.get?_push_size _ rfl
  have k3 : ∀ b o', s.heap.get? b = some o' → (sortingHeap (h1.push (seqObj "list" items.toList.toArray 0)) h1.objs.size items.toList).get? b = some o' := fun b o' q =>
    sortingHeap_old (Nat.ne_of_lt (Heap.lt_size (k1 b o' q))) (k2 b o' (k1 b o' q))
  have er' : EachIs (fun v b => ∃ as, Reads (sortingHeap (h1.push (seqObj "list" items.toList.toArray 0)) h1.objs.size items.toList) v (D.py b) as) items.toList bs := er.mono fun _ _ ⟨as, r⟩ => ⟨as, PyProof.Rows.Reads.keeps k3 r⟩
  refine wpAny_bind (wpAny_holding (wpAny_call_entry_kw slot_list_sort ⟨_, hat, rfl⟩ entry_list_sort ?body (args_list_sort _)))
  case body =>
    show wpAny (model prog w) A.in1.in1 (Builtin.«list.sort» ⟨[.ref h1.objs.size], []⟩) _ _ _
    refine list_sort_vals (s := { s with heap := h1.push (seqObj "list" items.toList.toArray 0) }) hat
      (SortsAt.data (s := { s with heap := sortingHeap (h1.push (seqObj "list" items.toList.toArray 0)) h1.objs.size items.toList })
        (each_map (R := fun v d => ∃ as, Reads (sortingHeap (h1.push (seqObj "list" items.toList.toArray 0)) h1.objs.size items.toList) v d as) D.py er') hal hk (bound_map hu)) (by rw [hlen]; exact hL) ?_
    have eo : EachIs R (sortVals (dataKind (sortingHeap (h1.push (seqObj "list" items.toList.toArray 0)) h1.objs.size items.toList) (bs.map D.py)) false items.toList items.toList) (bs.mergeSort (dataLe false D.py)) := sortVals_data false e er' hal
    obtain ⟨ep, hep⟩ := sortedHeap_at (out := (sortVals (dataKind (sortingHeap (h1.push (seqObj "list" items.toList.toArray 0)) h1.objs.size items.toList) (bs.map D.py)) false items.toList items.toList).toArray) hat
    refine ⟨_, rfl, wpAny_pure ⟨_, rfl, h h1 _ _ ep k1 (fun b o' q => ?_) hep eo⟩⟩
    show (sortedHeap _ h1.objs.size _ _).get? b = some o'
    rw [sortedHeap_old (Nat.ne_of_lt (Heap.lt_size q)) (Heap.lt_size (k2 b o' q))]
    exact k2 b o' q
end

section
variable {X : Cx} {pins : List (Addr × Obj)} {s : Shared} {σ : L2.St} {w : Wd}
/-- values and what they stand for -/
theorem each_of {K : PySem.W.Frag} : ∀ {ds : List D} {vs : List V} {us : List Value}, Rps K w ds vs → Vals vs us → EachIs (fun u d => ∃ v, RelV v u ∧ Rp K w d v) us ds
  | _, _, _, .nil, .nil => .nil
  | _, _, _, .cons h r, .cons g t => .cons ⟨_, g, h⟩ (each_of r t)
theorem of_each {K : PySem.W.Frag} : ∀ {ds : List D} {us : List Value}, EachIs (fun u d => ∃ v, RelV v u ∧ Rp K w d v) us ds → ∃ vs, Vals vs us ∧ Rps K w ds vs
  | _, _, .nil => ⟨[], .nil, .nil⟩
  | _, _, .cons ⟨v, g, h⟩ r => by
    obtain ⟨vs, h1, h2⟩ := of_each r
    exact ⟨v :: vs, .cons g h1, .cons h h2⟩
theorem reads_each (I : Inv X pins σ w.H s) : ∀ {ds : List D} {vs : List V} {us : List Value}, D.cleans ds = true → Rps X.K w ds vs → Vals vs us → EachIs (fun u d => ∃ as, Reads s.heap u (D.py d) as) us ds
  | _, _, _, _, .nil, .nil => .nil
  | _, _, _, c, .cons h r, .cons g t => by
    simp only [D.cleans, Bool.and_eq_true] at c
    exact .cons (Dp.reads I _ _ _ (Rp.dp c.1 h) g) (reads_each I c.2 r t)
theorem sortD_c {ds es : List D} (h : sortD ds = some es) : D.cleans ds = true ∧ AllAlike (ds.map D.py) ∧ Sortable (ds.map D.py) ∧ (∀ d ∈ ds, eqOk d = true) ∧ ds.length ≤ LIM ∧ es = ds.mergeSort fun a b => !PySem.W.dataLt b.py a.py := by
  unfold sortD at h
  split at h
  · rename_i hc
    cases h
    simp only [Bool.and_eq_true, decide_eq_true_eq, List.all_eq_true] at hc
    obtain ⟨⟨⟨⟨h1, h2⟩, h3⟩, h4⟩, h5⟩ := hc
    refine ⟨h1, ?_, ?_, h4, h5, rfl⟩
    · intro d hd e he
      obtain ⟨d', hd', rfl⟩ := List.mem_map.mp hd
      obtain ⟨e', he', rfl⟩ := List.mem_map.mp he
      unfold allAlike at h2
      rw [List.all_eq_true] at h2
      have := h2 d' hd'
      rw [List.all_eq_true] at this
      exact this e' he'
    · unfold sortOk at h3
      rw [Bool.or_eq_true, List.all_eq_true, List.all_eq_true] at h3
      rcases h3 with h3 | h3
      · refine .inl fun d hd => ?_
        obtain ⟨d', hd', rfl⟩ := List.mem_map.mp hd
        have := h3 d' hd'
        split at this
        · exact ⟨_, _, by simp only [D.py, D.pys]; rfl⟩
        · cases this
      · refine .inr fun d hd => ?_
        obtain ⟨d', hd', rfl⟩ := List.mem_map.mp hd
        have := h3 d' hd'
        split at this
        · simp [D.py]
        · simp [D.py]
        · cases this
  · cases h
theorem cr_sort (hu : X.A.units + 100 < cLine) {a : Addr} {ds es : List D} {vs : List V} {Q : VK} (I : Inv X pins σ w.H s) (ok : Ok X.K w) (hs : SqL X.K w.H a vs ∨ SqT X.K w.H a vs) (r : Rps X.K w ds vs) (e : sortD ds = some es) (post : Post X.K w (.lst es) w.st Q) :
    wpAny (model X.prog X.w) X.A (call (.builtin "sorted") [.ref a]) (EP X pins σ Q) X.xe s := by
  obtain ⟨c1, c2, c3, c4, c5, rfl⟩ := sortD_c e
  obtain ⟨T, o, items, n, hT, ho, hc, hd, rv⟩ : ∃ (T : String) (o : Obj) (items : Array Value) (n : Nat), (T = "list" ∨ T = "tuple") ∧ s.heap.get? a = some o ∧ o.cls = .type T ∧ o.data = .seq items n ∧ Vals vs items.toList := by
    rcases hs with hs | hs
    · obtain ⟨its, rv, ⟨o, n, ho, hc, _, hd⟩, _⟩ := I.list hs
      exact ⟨_, o, _, n, .inl rfl, ho, hc, hd, by simpa using rv⟩
    · obtain ⟨its, rv, ⟨o, ho, hc, n, hd⟩, _⟩ := I.tuple hs
      exact ⟨_, o, _, n, .inr rfl, ho, hc, hd, by simpa using rv⟩
  refine sorted_seq hT ho hc hd (each_of r rv) (reads_each I c1 r rv) c2 c3 (lim_size c5) (fun b hb => ?_) fun h1 h' out ep hk1 hk hat hout => ?_
  · have h1 := SeqAt.depth_of_shaped (eqOk_c (c4 b hb)).2
    omega
  · obtain ⟨ys, v1, v2⟩ := of_each hout
    have I1 : Inv X pins σ w.H { s with heap := h1 } := I.kept (t' := s.toks) hk1
    have hf : w.H h1.objs.size = none := I1.hok.fresh (Nat.le_refl _)
    have hl : ys.length ≤ sizeLine := by
      rw [v2.length, List.length_mergeSort]
      exact lim_size c5
    refine ⟨.ref h1.objs.size, upd w.H h1.objs.size (.lst ys), I1.laid (t' := s.toks) hk (Nat.le_refl _) ⟨hl, out, ep, v1, hat⟩, rfl, ?_⟩
    exact post.lst ok hf v2
end
end Kw

set_option Elab.async false
set_option linter.all false
set_option maxRecDepth 100000
/-! Kw: tuple(d), repr, the built-in functions by what they give. -/
namespace Kw
open PySem PySem.Spec PyProof.Rows L2 PySem.W PySem.Calls

section
variable {prog : Program} {w : World} {A : Around} {E : Value → Shared → Prop} {s : Shared} {T : String} {r d : Addr} {n : Nat} {P : Nat → Value → Prop} {OK : Heap → Prop}
theorem coll_kdl {Q : List Value → Shared → Prop} (K : KdlSrc prog w T r d n P OK) (hh : A.handled = none) (hok : OK s.heap) (hn : n ≤ sizeLine)
    (hQ : ∀ (h' : Heap) (tk : Nat) (acc : Array Value), (∀ b o, s.heap.get? b = some o → h'.get? b = some o) → ItemsOf P acc n → Q acc.toList { s with heap := h', toks := tk }) : wpAny (model prog w) A (collect (.ref r)) Q E s := by
  have there := K.there _ hok
  unfold collect
  refine wpAny_bind (wpAny_runValue (codeAny_builtin PySem.F.entry_proto_collect ?_))
  rw [Around.under_plainId PySem.F.plain_proto_collect _]
  show wpAny _ A.in1 (newList [] >>= fun l => again (.builtin "list.__iadd__" ⟨[l, .ref r], []⟩)) _ _ s
  refine wpAny_bind (wpAny_newObj_type (wpAny_pure ⟨plainId_quiet PySem.F.plain_list_iadd _, codeAny_builtin PySem.F.entry_list_iadd ?_⟩))
  rw [Around.under_plainId PySem.F.plain_list_iadd _]
  have hS : (s.heap.push { cls := .type "list", data := .seq ([] : List Value).toArray }).get? s.heap.objs.size = some { cls := .type "list", data := .seq #[] 0 } := Heap.get?_push_size _ rfl
  show wpAny _ A.in1 (Builtin.List.listExtendWith (.ref s.heap.objs.size) (.ref r) (.ref s.heap.objs.size)) _ _ _
  have key := kdl_extend (prog := prog) (w := w) (A := A) (s := { s with heap := s.heap.push { cls := .type "list", data := .seq ([] : List Value).toArray } })
    (R := fun (q : Result) (s' : Shared) => q = .ok (.ret (.ref s.heap.objs.size)) ∧ ∃ (h' : Heap) (tk : Nat) (acc : Array Value) (c' : Nat), s' = { s with heap := h', toks := tk } ∧ (∀ b o, s.heap.get? b = some o → h'.get? b = some o) ∧
      h'.get? s.heap.objs.size = some { cls := .type "list", dict := none, data := .seq acc c', slots := #[] } ∧ ItemsOf P acc n)
    K hh (K.keep _ _ hok fun b _ o e => Heap.get?_push_of_some _ e) s.heap.objs.size (Nat.ne_of_gt there.1) (Nat.ne_of_gt there.2) (.ref s.heap.objs.size) 0 hS
    (fun h' tk acc c' hk hS' hacc => ⟨rfl, h', tk, acc, c', rfl, fun b o e => hk b o (Nat.ne_of_lt (Heap.lt_size e)) (Heap.get?_push_of_some _ e), hS', hacc⟩) hn
  have fin : ∀ {h' : Heap} {tk : Nat} {acc : Array Value} {c' : Nat}, (∀ b o, s.heap.get? b = some o → h'.get? b = some o) → h'.get? s.heap.objs.size = some { cls := .type "list", dict := none, data := .seq acc c', slots := #[] } → ItemsOf P acc n →
      wpAny (model prog w) A (do
        let o ← load s.heap.objs.size
        match o.data with
        | .seq xs _ => pure xs.toList
        | _ => unsupported "internal:collect") Q E { s with heap := h', toks := tk } := fun hk hS' hacc => wpAny_bind (wpAny_load hS' (wpAny_pure (hQ _ _ _ hk hacc)))
  refine wpAny_mono key (fun f s' x => ?_) fun e s' x => absurd x.1 (by simp)
  cases f with
  | done fl =>
    obtain ⟨e, h', tk, acc, c', rfl, hk, hS', hacc⟩ := x
    cases e
    exact fin hk hS' hacc
  | again c1 =>
    refine ⟨x.1, codeAny_mono x.2 fun q s2 y => ?_⟩
    obtain ⟨rfl, h', tk, acc, c', rfl, hk, hS', hacc⟩ := y
    exact fin hk hS' hacc
theorem tuple_kdl {Q : Value → Shared → Prop} (K : KdlSrc prog w "dict" r d n P OK) (hh : A.handled = none) (hok : OK s.heap) (hn : n ≤ sizeLine)
    (hQ : ∀ (h' : Heap) (tk : Nat) (acc : Array Value), (∀ b o, s.heap.get? b = some o → h'.get? b = some o) → ItemsOf P acc n → Q (.ref h'.objs.size) { s with heap := h'.push { cls := .type "tuple", data := .seq acc }, toks := tk }) :
    wpAny (model prog w) A (call (.type "tuple") [.ref r]) Q E s := by
  have body : codeAny (model prog w) A.in1 (.call (.builtin "tuple.__new__") ⟨[.type "tuple", .ref r], []⟩) (wants (fun obj s1 => s1.TypeIs obj "tuple" ∧ Q obj s1) E) s := by
    refine codeAny_of_tree ?_
    show wpAny _ A.in1.in1 (do checkBuiltinCall "tuple.__new__" ⟨[.type "tuple", .ref r], []⟩; again (.builtin "tuple.__new__" ⟨[.type "tuple", .ref r], []⟩)) _ _ s
    refine wpAny_bind (wpAny_of_eq (PySem.F.newCall_tuple_1 _) (wpAny_pure ⟨plainId_quiet PySem.F.plain_tuple_new _, codeAny_builtin PySem.F.entry_tuple_new ?_⟩))
    rw [Around.under_plainId PySem.F.plain_tuple_new _]
    have hsub := sub_tuple_self
    have hinit := init_tuple_lookup
    have hmh := madeHere_tuple
    have hTI : s.TypeIs (.ref r) "dict" := K.type _ hok
    have hh1 : A.in1.in1.handled = none := hh
    wp_walk using wpAny_typeOf hTI, coll_kdl (A := A.in1.in1) K hh1 hok hn
    intro h' tk acc hk hacc
    show wpAny _ _ (Builtin.Tuple.tupleExact acc.toList.toArray >>= fun v => ret v) _ _ _
    unfold Builtin.Tuple.tupleExact
    refine wpAny_bind (wpAny_newObj_type ?_ (by show acc.toList.toArray.size ≤ sizeLine; simp only [Array.toArray_toList]; rw [hacc.1]; exact hn))
    refine wpAny_pure ?_
    have e : acc.toList.toArray = acc := by simp
    rw [e]
    exact ⟨⟨_, Heap.get?_push_size _ rfl, rfl⟩, hQ h' tk acc hk hacc⟩
  refine callType_codes (Q₁ := fun obj s1 => s1.TypeIs obj "tuple" ∧ Q obj s1) PySem.F.called_tuple (PySem.F.typeCall_tuple_1 _) PySem.F.entry_object_init body fun obj s1 h1 => ?_
  exact ⟨h1.1, PySem.F.args_object_init_2 obj _, object_init_meets PySem.F.called_tuple.init.lookup PySem.F.called_tuple.made (by decide) prog w A.in1 _ s1 ⟨h1.1, rfl, h1.2⟩⟩
end
end Kw

set_option Elab.async false
set_option linter.all false
set_option maxRecDepth 100000
/-! Kw: the built-in functions. -/
namespace Kw
open PySem PySem.Spec PyProof.Rows L2

def OpN (K : PySem.W.Frag) (f : List D → Store → R D) : List V → Hp → VK → Prop := fun xs H Q => ∃ w ds d st', w.H = H ∧ Ok K w ∧ Rps K w ds xs ∧ f ds w.st = some (d, st') ∧ Post K w d st' Q
/-- the name, the value of a built-in -/
def Bi.name : Bi → Str
  | .len => "len"
  | .list => "list"
  | .listM => "list"
  | .tuple => "tuple"
  | .sorted => "sorted"
  | .sum => "sum"
  | .all => "all"
  | .any => "any"
  | .max => "max"
  | .min => "min"
  | .repr => "repr"
  | .int => "int"
  | .dict => "dict"
  | .isinst _ => "isinstance"
def Bi.val : Bi → Value
  | .len => .builtin "len"
  | .list => .type "list"
  | .listM => .type "list"
  | .tuple => .type "tuple"
  | .sorted => .builtin "sorted"
  | .sum => .builtin "sum"
  | .all => .builtin "all"
  | .any => .builtin "any"
  | .max => .builtin "max"
  | .min => .builtin "min"
  | .repr => .builtin "repr"
  | .int => .type "int"
  | .dict => .type "dict"
  | .isinst _ => .builtin "isinstance"

theorem Post.newO {K : PySem.W.Frag} {w : Wd} {Q : VK} {p : Addr} {o : HO} {mo : MO} (h : Post K w (.ref w.st.length) (w.st ++ [mo]) Q) (k : Ok K w) (hp : w.H p = none) (ho : OR K (w.new p o mo) w.st.length mo) : Q (.ref p) (upd w.H p o) := by
  have r : Rp K (w.new p o mo) (.ref w.st.length) (.ref ((w.new p o mo).io w.st.length)) := .ref (by simp [Wd.new])
  rw [Wd.new_at] at r
  exact h (w.new p o mo) (.ref p) (k.new hp ho) (k.le_new hp) rfl r
theorem Post.newL {K : PySem.W.Frag} {w : Wd} {Q : VK} {p : Addr} {ds : List D} {vs : List V} (h : Post K w (.ref w.st.length) (w.st ++ [.lst ds]) Q) (k : Ok K w) (hp : w.H p = none) (r : Rps K w ds vs) (u : D.unds w.st.length ds = true) : Q (.ref p) (upd w.H p (.lst vs)) :=
  h.newO k hp ⟨u, vs, by rw [Wd.new_at]; exact upd_same, r.mono k (k.le_new hp)⟩
theorem Post.newK {K : PySem.W.Frag} {w : Wd} {Q : VK} {p : Addr} {ds : List (L2.Key × D)} {vs : List (L2.Key × V)} (h : Post K w (.ref w.st.length) (w.st ++ [.dK ds]) Q) (k : Ok K w) (hp : w.H p = none) (r : RpK K w ds vs) (u : D.unds w.st.length (ds.map (·.2)) = true) : Q (.ref p) (upd w.H p (.dK vs)) :=
  h.newO k hp ⟨u, vs, by rw [Wd.new_at]; exact upd_same, r.1, r.2.mono k (k.le_new hp)⟩

section
variable {K : PySem.W.Frag} {w : Wd}
theorem RpK.keys {kvs : List (L2.Key × D)} {ws : List (L2.Key × V)} (h : RpK K w kvs ws) : Rps K w (kvs.map fun p => keyD p.1) (ws.map fun p => kV p.1) := by
  have e1 : (kvs.map fun p => keyD p.1) = (kvs.map (·.1)).map keyD := by rw [List.map_map]; rfl
  have e2 : (ws.map fun p => kV p.1) = (ws.map (·.1)).map kV := by rw [List.map_map]; rfl
  rw [e1, e2, h.1]
  generalize kvs.map (·.1) = ks
  induction ks with
  | nil => exact .nil
  | cons k ks ih =>
    refine .cons ?_ ih
    cases k with
    | inl i => exact .int i
    | inr s => exact .str s
theorem RpK.put {kvs : List (L2.Key × D)} {ws : List (L2.Key × V)} (h : RpK K w kvs ws) (k : L2.Key) {d : D} {v : V} (r : Rp K w d v) : RpK K w (putK kvs k d) (L2.putK ws k v) := by
  have ea : (ws.any fun p => decide (p.1 = k)) = kvs.any fun p => decide (p.1 = k) := by
    have : ∀ (xs : List (L2.Key × V)), (xs.any fun p => decide (p.1 = k)) = (xs.map (·.1)).any fun q => decide (q = k) := fun xs => by rw [List.any_map]; rfl
    have t : ∀ (xs : List (L2.Key × D)), (xs.any fun p => decide (p.1 = k)) = (xs.map (·.1)).any fun q => decide (q = k) := fun xs => by rw [List.any_map]; rfl
    rw [this, t, h.1]
  unfold putK L2.putK
  rw [ea]
  by_cases c : (kvs.any fun p => decide (p.1 = k)) = true
  · rw [if_pos c, if_pos c]
    clear c ea
    induction kvs generalizing ws with
    | nil =>
      have e : ws = [] := by simpa using h.1
      subst e
      exact h
    | cons p kvs ih =>
      cases ws with
      | nil => have := h.1; simp at this
      | cons q ws =>
        obtain ⟨h1, h2⟩ := h
        simp only [List.map_cons, List.cons.injEq] at h1
        cases h2 with
        | cons g1 g2 =>
          obtain ⟨i1, i2⟩ := ih (ws := ws) ⟨h1.2, g2⟩
          by_cases e : p.1 = k
          · simp only [List.map_cons, e, h1.1, if_true]
            exact ⟨by simp only [List.map_cons, i1], .cons r i2⟩
          · simp only [List.map_cons, e, h1.1, if_false]
            exact ⟨by simp only [List.map_cons, i1, h1.1], .cons g1 i2⟩
  · rw [if_neg c, if_neg c]
    refine ⟨by simp [h.1], ?_⟩
    rw [List.map_append, List.map_append]
    exact h.2.append (.cons r .nil)
theorem RpK.merge : ∀ {more : List (L2.Key × D)} {ms : List (L2.Key × V)} {kvs : List (L2.Key × D)} {ws : List (L2.Key × V)}, RpK K w kvs ws → RpK K w more ms → RpK K w (mergeD kvs more) (mergeK ws ms)
  | [], ms, _, _, h, g => by
    have e : ms = [] := by simpa using g.1
    subst e
    exact h
  | p :: more, [], _, _, h, g => by have := g.1; simp at this
  | p :: more, q :: ms, kvs, ws, h, g => by
    obtain ⟨g1, g2⟩ := g
    simp only [List.map_cons, List.cons.injEq] at g1
    cases g2 with
    | cons r1 r2 =>
      have z : RpK K w (putK kvs p.1 p.2) (L2.putK ws q.1 q.2) := by
        rw [g1.1]
        exact h.put p.1 r1
      exact RpK.merge (more := more) (ms := ms) z ⟨g1.2, r2⟩
theorem putK_sub {kvs : List (L2.Key × D)} {k : L2.Key} {d : D} : ∀ y ∈ (putK kvs k d).map (·.2), y ∈ kvs.map (·.2) ∨ y = d := by
  intro y hy
  unfold putK at hy
  split at hy
  · rw [List.map_map] at hy
    obtain ⟨p, hp, e⟩ := List.mem_map.mp hy
    simp only [Function.comp] at e
    split at e
    · exact .inr e.symm
    · exact .inl (List.mem_map.mpr ⟨p, hp, e⟩)
  · simp only [List.map_append, List.mem_append, List.map_cons, List.map_nil, List.mem_singleton] at hy
    exact hy
theorem mergeD_sub : ∀ {more kvs : List (L2.Key × D)}, ∀ y ∈ (mergeD kvs more).map (·.2), y ∈ kvs.map (·.2) ∨ y ∈ more.map (·.2)
  | [], kvs, y, h => .inl h
  | p :: more, kvs, y, h => by
    rcases mergeD_sub (more := more) (kvs := putK kvs p.1 p.2) y h with z | z
    · rcases putK_sub y z with z | z
      · exact .inl z
      · exact .inr (by subst z; simp)
    · exact .inr (List.mem_cons_of_mem _ z)
theorem pairs_ok : ∀ {ds : List D} {vs : List V} {kvs : List (L2.Key × D)}, Rps K w ds vs → pairsK ds = some kvs → ∃ (ps : List Addr) (ws : List (L2.Key × V)), vs = ps.map V.ref ∧ Paired (fun p kv => SqT K w.H p [kV kv.1, kv.2]) ps ws ∧ RpK K w kvs ws ∧ ws.length = ds.length
  | _, _, _, .nil, e => by cases e; exact ⟨[], [], rfl, .nil, ⟨rfl, .nil⟩, rfl⟩
  | _, _, kvs, .cons (ds := ds) h r, e => by
    unfold pairsK at e
    split at e
    · rename_i heq; cases heq
    · rename_i kd vd ds' heq
      cases heq
      split at e
      · rename_i k0 rest hk hr
        cases e
        obtain ⟨ps, ws, rfl, p1, p2, p3⟩ := pairs_ok r hr
        cases h with
        | tup hs hr' =>
          cases hr' with
          | cons g1 g2 =>
            cases g2 with
            | cons g3 g4 =>
              cases g4
              have ek := g1.key_of hk
              subst ek
              exact ⟨_ :: ps, (_, _) :: ws, rfl, .cons hs p1, ⟨by simp [p2.1], .cons g3 p2.2⟩, by simp [p3]⟩
      · cases e
    · cases e
end

section
variable {X : Cx}
theorem maxI_ge : ∀ (r : List Int) (a : Int), a ≤ maxI a r ∧ (∀ y ∈ r, y ≤ maxI a r) ∧ maxI a r ∈ a :: r
  | [], a => ⟨Int.le_refl _, fun _ h => absurd h (by simp), by simp [maxI]⟩
  | b :: r, a => by
    unfold maxI
    obtain ⟨h1, h2, h3⟩ := maxI_ge r (if b > a then b else a)
    refine ⟨?_, ?_, ?_⟩
    · split at h1 <;> rename_i c
      · rw [if_pos c]; omega
      · rw [if_neg c]; exact h1
    · intro y hy
      rcases List.mem_cons.mp hy with rfl | hy
      · split at h1 <;> rename_i c
        · rw [if_pos c]; exact h1
        · rw [if_neg c]; omega
      · exact h2 y hy
    · rcases List.mem_cons.mp h3 with e | e
      · rw [e]; split <;> simp
      · exact List.mem_cons_of_mem _ (List.mem_cons_of_mem _ e)
theorem minI_le : ∀ (r : List Int) (a : Int), minI a r ≤ a ∧ (∀ y ∈ r, minI a r ≤ y) ∧ minI a r ∈ a :: r
  | [], a => ⟨Int.le_refl _, fun _ h => absurd h (by simp), by simp [minI]⟩
  | b :: r, a => by
    unfold minI
    obtain ⟨h1, h2, h3⟩ := minI_le r (if b < a then b else a)
    refine ⟨?_, ?_, ?_⟩
    · split at h1 <;> rename_i c
      · rw [if_pos c]; omega
      · rw [if_neg c]; exact h1
    · intro y hy
      rcases List.mem_cons.mp hy with rfl | hy
      · split at h1 <;> rename_i c
        · rw [if_pos c]; exact h1
        · rw [if_neg c]; omega
      · exact h2 y hy
    · rcases List.mem_cons.mp h3 with e | e
      · rw [e]; split <;> simp
      · exact List.mem_cons_of_mem _ (List.mem_cons_of_mem _ e)
theorem tupleD_ok (hc : X.calm = true) {pins : List (Addr × Obj)} {s : Shared} {σ : L2.St} {H : Hp} {a : Addr} {kvs : List (L2.Key × V)} {Q : VK} (I : Inv X pins σ H s) (hk : H a = some (.dK kvs)) (q : ∀ p, H p = none → Q (.ref p) (upd H p (.tup (kvs.map fun kv => kV kv.1)))) :
    wpAny (model X.prog X.w) X.A (call (.type "tuple") [.ref a]) (EP X pins σ Q) X.xe s := by
  obtain ⟨z, lo, vs, rk, hd⟩ := (show ObjOk X.prog X.w H s.heap a (.dK kvs) from I.hok a _ hk)
  obtain ⟨ep, hat⟩ := hd.dictAt
  have hl : kvs.length = vs.length := Paired.length rk
  refine tuple_kdl (PySem.W.kdl_dict (knd := mixKind X.prog X.w) (kvs := vs) (ep := ep) lo) (I.ok.hd hc) hat (by rw [← hl]; exact z) fun h' tk acc hkeep hacc => ?_
  have I1 : Inv X pins σ H { s with heap := h', toks := tk } := I.kept hkeep
  have hv : Vals (kvs.map fun kv => kV kv.1) acc.toList := by
    have el : acc.toList.length = acc.size := by simp
    refine vals_of_at (by rw [List.length_map, el, hacc.1, hl]) fun j x w' h1 h2 => ?_
    obtain ⟨k, y, hky, hi⟩ := hacc.2 j w' (by rw [← Array.getElem?_toList]; exact h2)
    have e1 : (kvs.map (·.1))[j]? = some k := by
      rw [KV.keys rk, List.getElem?_map, hky]; rfl
    have e2 : (kvs.map fun kv => kV kv.1) = (kvs.map (·.1)).map kV := by rw [List.map_map]; rfl
    rw [e2, List.getElem?_map, e1] at h1
    cases h1
    exact keyIs_rel hi
  refine ⟨.ref h'.objs.size, upd H h'.objs.size (.tup (kvs.map fun kv => kV kv.1)), I1.laid (t' := tk) (fun b o e => Heap.get?_push_of_some _ e) (Nat.le_refl _) ⟨by rw [List.length_map]; exact z, acc.toList, hv, ?_⟩, rfl, q _ (I1.hok.fresh (Nat.le_refl _))⟩
  have := IsTup.new h' acc
  simpa using this
theorem repr_ok (hg : X.A.guards = some []) (hu : X.A.units + 100 < cLine) {pins : List (Addr × Obj)} {s : Shared} {σ : L2.St} {w : Wd} {d : D} {v : V} {u : Value} {Q : VK} (I : Inv X pins σ w.H s) (rx : RelV v u) (ra : Rp X.K w d v) (c : eqOk d = true) (hl : d.py.shown.length ≤ LIM) (hs : d.py.showable = true)
    (q : Q (.str d.py.shown) w.H) : wpAny (model X.prog X.w) X.A (call (.builtin "repr") [u]) (EP X pins σ Q) X.xe s := by
  obtain ⟨c1, s1⟩ := eqOk_c c
  obtain ⟨as, r⟩ := Dp.reads I _ _ _ (Rp.dp c1 ra) rx
  have hz := SeqAt.depth_of_shaped s1
  have end0 : ∀ (h' : Heap) (tt : Tok) (tk : Nat), (∀ b o, s.heap.get? b = some o → h'.get? b = some o) → EP X pins σ Q (.str d.py.shown tt) { s with heap := h', toks := tk } := fun h' tt tk hk => ⟨.str _, w.H, I.kept hk, ⟨_, rfl⟩, q⟩
  have nd : d.py.hasDict = false := PyData.hasDict_of_canLay _ (SeqAt.canLay_of_shaped s1)
  have big : ∀ a, u = .ref a → wpAny (model X.prog X.w) X.A (call (.builtin "repr") [u]) (EP X pins σ Q) X.xe s := fun a e => by
    subst e
    exact repr_of_reads' r hs (fun z => by rw [nd] at z; cases z) hg (by omega) (fun _ _ e => e) (fun h' tt tk hk => end0 h' tt tk hk) (lim_size hl)
  cases ra with
  | non => cases rx; exact P.repr_of_none (end0 s.heap _ _ fun _ _ e => e)
  | bl b => cases rx; exact P.repr_of_bool (by simpa [D.py, PyData.shown] using end0 s.heap s.toks (s.toks + 1) fun _ _ e => e)
  | int i =>
    obtain ⟨t, rfl⟩ := rx
    exact P.repr_of_int (by simpa [D.py, PyData.showable] using hs) (end0 s.heap _ _ fun _ _ e => e)
  | str z =>
    obtain ⟨t, rfl⟩ := rx
    exact P.repr_of_str (end0 s.heap _ _ fun _ _ e => e) (lim_size hl)
  | tup _ _ => cases rx; exact big _ rfl
  | lst _ _ _ => cases rx; exact big _ rfl
  | scr _ => cases rx; exact big _ rfl
  | ref _ => simp [D.clean] at c1
/-- what is asked of the place where a built-in is called -/
structure Calm (X : Cx) : Prop where
  calm : X.calm = true
  units : X.A.units + 100 < cLine
  guards : X.A.guards = some []
theorem bi_ok (C : Calm X) (b : Bi) (hb : ∀ T, b ≠ .isinst T) : CallR X b.val (OpN X.K (biD b)) := by
  rintro pins s σ H xs us Q I rv ⟨w, ds, d, st', rfl, ok, rs, e, post⟩
  unfold biD at e
  split at e
  · -- len
    cases rs with
    | cons r1 r2 =>
      cases r2
      split at e
      · split at e
        · rename_i hl
          cases e
          cases r1
          exact call_len_str pins s σ w.H _ us Q I rv ⟨_, rfl, lim_size hl, post.same ok (.int _)⟩
        · cases e
      · cases e
        cases r1 with
        | tup h r =>
          refine call_len pins s σ w.H _ us Q I rv ⟨_, _, rfl, .inr ⟨_, h, rfl⟩, ?_⟩
          rw [r.length]
          exact post.same ok (.int _)
      · cases e
        cases r1 with
        | lst h n r =>
          refine call_len pins s σ w.H _ us Q I rv ⟨_, _, rfl, .inl ⟨_, .inl (.inl h), rfl⟩, ?_⟩
          rw [r.length]
          exact post.same ok (.int _)
      · cases e
        cases r1 with
        | scr h =>
          refine call_len pins s σ w.H _ us Q I rv ⟨_, _, rfl, .inl ⟨_, h.sq, rfl⟩, ?_⟩
          rw [List.length_map]
          exact post.same ok (.int _)
      · rename_i l
        cases r1 with
        | ref hl =>
          split at e
          · rename_i ys hy
            cases e
            obtain ⟨_, vs, h, r⟩ := ok.ob l _ hy
            refine call_len pins s σ w.H _ us Q I rv ⟨_, _, rfl, .inl ⟨_, .inl (.inl h), rfl⟩, ?_⟩
            rw [r.length]
            exact post.same ok (.int _)
          · rename_i kvs hy
            cases e
            obtain ⟨_, ws, h, r⟩ := ok.ob l _ hy
            refine call_lenD pins s σ w.H _ us Q I rv ⟨_, _, rfl, h, ?_⟩
            have e1 : ws.length = kvs.length := by have := congrArg List.length r.1; simpa using this
            rw [e1]
            exact post.same ok (.int _)
          · cases e
      · cases e
  · -- list
    cases rs with
    | cons r1 r2 =>
      cases r2
      split at e
      · cases e
        cases r1 with
        | tup h r => exact call_list_of pins s σ w.H _ us Q I rv ⟨_, _, rfl, .inr h, fun l hl => post.lst ok hl r⟩
      · cases e
        cases r1 with
        | lst h n r => exact call_list_of pins s σ w.H _ us Q I rv ⟨_, _, rfl, .inl (.inl (.inl h)), fun l hl => post.lst ok hl r⟩
      · rename_i l
        cases r1 with
        | ref hl =>
          split at e
          · rename_i kvs hy
            split at e
            · cases e
              obtain ⟨_, ws, h, r⟩ := ok.ob l _ hy
              exact call_list_dK C.calm pins s σ w.H _ us Q I rv ⟨_, ws, rfl, h, fun p hp => post.lst ok hp r.keys⟩
            · cases e
          · cases e
      · cases e
  · -- listM
    cases rs with
    | cons r1 r2 =>
      cases r2
      split at e
      · split at e
        · rename_i hu
          cases e
          cases r1 with
          | tup h r => exact call_list_of pins s σ w.H _ us Q I rv ⟨_, _, rfl, .inr h, fun l hl => post.newL ok hl r hu⟩
        · cases e
      · split at e
        · rename_i hu
          cases e
          cases r1 with
          | lst h n r => exact call_list_of pins s σ w.H _ us Q I rv ⟨_, _, rfl, .inl (.inl (.inl h)), fun l hl => post.newL ok hl r hu⟩
        · cases e
      · cases e
  · -- tuple
    cases rs with
    | cons r1 r2 =>
      cases r2
      split at e
      · cases e
        cases r1 with
        | tup h r => exact call_tuple_of pins s σ w.H _ us Q I rv ⟨_, _, rfl, .inr ⟨h, post.same ok (.tup h r)⟩⟩
      · cases e
        cases r1 with
        | lst h n r => exact call_tuple_of pins s σ w.H _ us Q I rv ⟨_, _, rfl, .inl ⟨.inl (.inl h), fun l hl => post.tup ok hl r⟩⟩
      · rename_i l
        cases r1 with
        | ref hl =>
          split at e
          · rename_i kvs hy
            cases e
            obtain ⟨_, ws, h, r⟩ := ok.ob l _ hy
            obtain ⟨u, rfl, ru⟩ := vals1 rv
            cases ru
            exact tupleD_ok C.calm I h fun p hp => post.tup ok hp r.keys
          · rename_i ys hy
            split at e
            · cases e
              obtain ⟨_, vs, h, r⟩ := ok.ob l _ hy
              exact call_tuple_of pins s σ w.H _ us Q I rv ⟨_, _, rfl, .inl ⟨.inl (.inl h), fun l hl => post.tup ok hl r⟩⟩
            · cases e
          · cases e
      · cases e
  · -- sorted
    cases rs with
    | cons r1 r2 =>
      cases r2
      split at e
      · rw [Option.map_eq_some_iff] at e
        obtain ⟨ys, e, e2⟩ := e
        cases e2
        cases r1 with
        | lst h n r =>
          obtain ⟨u, rfl, ru⟩ := vals1 rv
          cases ru
          exact cr_sort C.units I ok (.inl (.inl (.inl h))) r e post
      · rw [Option.map_eq_some_iff] at e
        obtain ⟨ys, e, e2⟩ := e
        cases e2
        cases r1 with
        | tup h r =>
          obtain ⟨u, rfl, ru⟩ := vals1 rv
          cases ru
          exact cr_sort C.units I ok (.inr h) r e post
      · cases e
  · -- sum
    cases rs with
    | cons r1 r2 =>
      cases r2
      rw [Option.map_eq_some_iff] at e
      obtain ⟨ns, e, e2⟩ := e
      cases e2
      cases r1 with
      | lst h n r =>
        have ev := r.intsOf e
        subst ev
        exact cr_sum C.calm pins s σ w.H _ us Q I rv ⟨_, ns, rfl, .inl (.inl h), post.same ok (.int _)⟩
  · -- all
    cases rs with
    | cons r1 r2 =>
      cases r2
      rw [Option.map_eq_some_iff] at e
      obtain ⟨ns, e, e2⟩ := e
      cases e2
      cases r1 with
      | lst h n r =>
        have ev := r.boolsOf e
        subst ev
        exact cr_all C.calm pins s σ w.H _ us Q I rv ⟨_, ns, rfl, .inl (.inl h), post.same ok (.bl _)⟩
  · -- any
    cases rs with
    | cons r1 r2 =>
      cases r2
      rw [Option.map_eq_some_iff] at e
      obtain ⟨ns, e, e2⟩ := e
      cases e2
      cases r1 with
      | lst h n r =>
        have ev := r.boolsOf e
        subst ev
        exact cr_any C.calm pins s σ w.H _ us Q I rv ⟨_, ns, rfl, .inl (.inl h), post.same ok (.bl _)⟩
  · -- max
    cases rs with
    | cons r1 r2 =>
      cases r2
      split at e
      · rename_i a r' ha
        cases e
        cases r1 with
        | lst h n r =>
          have ev := r.intsOf ha
          subst ev
          obtain ⟨g1, g2, g3⟩ := maxI_ge r' a
          refine cr_max C.calm pins s σ w.H _ us Q I rv ⟨_, a :: r', rfl, .inl (.inl h), by simp, fun m hm hle => ?_⟩
          have em : m = maxI a r' := by
            have k1 := hle _ g3
            have k2 : m ≤ maxI a r' := by
              rcases List.mem_cons.mp hm with z | z
              · rw [z]; exact g1
              · exact g2 m z
            omega
          rw [em]
          exact post.same ok (.int _)
      · cases e
  · -- min
    cases rs with
    | cons r1 r2 =>
      cases r2
      split at e
      · rename_i a r' ha
        cases e
        cases r1 with
        | lst h n r =>
          have ev := r.intsOf ha
          subst ev
          obtain ⟨g1, g2, g3⟩ := minI_le r' a
          refine cr_min C.calm pins s σ w.H _ us Q I rv ⟨_, a :: r', rfl, .inl (.inl h), by simp, fun m hm hle => ?_⟩
          have em : m = minI a r' := by
            have k1 := hle _ g3
            have k2 : minI a r' ≤ m := by
              rcases List.mem_cons.mp hm with z | z
              · rw [z]; exact g1
              · exact g2 m z
            omega
          rw [em]
          exact post.same ok (.int _)
      · cases e
  · -- max of two
    cases e
    cases rs with
    | cons r1 r2 =>
      cases r2 with
      | cons r2 r3 =>
        cases r3; cases r1; cases r2
        exact call_max2 C.calm pins s σ w.H _ us Q I rv ⟨_, _, rfl, post.same ok (.int _)⟩
  · cases e
    cases rs with
    | cons r1 r2 =>
      cases r2 with
      | cons r2 r3 =>
        cases r3; cases r1; cases r2
        exact call_min2 C.calm pins s σ w.H _ us Q I rv ⟨_, _, rfl, post.same ok (.int _)⟩
  · -- repr
    cases rs with
    | cons r1 r2 =>
      cases r2
      split at e
      · rename_i hc
        cases e
        simp only [Bool.and_eq_true, decide_eq_true_eq] at hc
        obtain ⟨u, rfl, ru⟩ := vals1 rv
        exact repr_ok C.guards C.units I ru r1 hc.1.1 hc.1.2 hc.2 (post.same ok (.str _))
      · cases e
  · -- int
    cases e
    cases rs with
    | cons r1 r2 =>
      cases r2; cases r1
      exact call_int1 pins s σ w.H _ us Q I rv (.inr ⟨_, rfl, post.same ok (.int _)⟩)
  · cases e
    cases rs with
    | cons r1 r2 =>
      cases r2; cases r1
      exact call_int1 pins s σ w.H _ us Q I rv (.inl ⟨_, rfl, post.same ok (.int _)⟩)
  · -- dict
    cases rs with
    | cons r1 r2 =>
      cases r2
      split at e
      · rename_i kvs hk
        split at e
        · rename_i hc
          cases e
          simp only [Bool.and_eq_true, decide_eq_true_eq] at hc
          cases r1 with
          | lst h n r =>
            obtain ⟨ps, ws, rfl, p1, p2, p3⟩ := pairs_ok r hk
            have hu : D.unds w.st.length ((mergeD [] kvs).map (·.2)) = true := unds_of_sub (D.unds_clean _ hc.1) fun y hy => by
              rcases mergeD_sub y hy with z | z
              · exact absurd z (by simp)
              · exact z
            exact call_dictP C.calm pins s σ w.H _ us Q I rv ⟨_, ps, ws, rfl, .inl (.inl h), p1, fun p hp => post.newK ok hp (RpK.merge ⟨rfl, .nil⟩ p2) hu⟩
        · cases e
      · cases e
  · exact absurd rfl (hb _)
  · cases e
theorem isinst_ok {pins : List (Addr × Obj)} {s : Shared} {σ : L2.St} {w : Wd} {d : D} {x : V} {T : String} {b : Bool} {us : List Value} {Q : VK} (hT : T = "str" ∨ T = "tuple" ∨ T = "int" ∨ T = "bool" ∨ T = "list") (I : Inv X pins σ w.H s) (ok : Ok X.K w) (r : Rp X.K w d x) (rv : Vals [x, .ty T] us) (e : isT T d = some b)
    (q : Q (.bl b) w.H) : wpAny (model X.prog X.w) X.A (call (.builtin "isinstance") us) (EP X pins σ Q) X.xe s := by
  have fin : ∀ (t : String), TyX X.K w.H x (.type t) → L2.kitB t T = some b → wpAny (model X.prog X.w) X.A (call (.builtin "isinstance") us) (EP X pins σ Q) X.xe s := fun t h1 h2 =>
    call_isi pins s σ w.H _ us Q I rv ⟨x, .ty T, .type t, .type T, b, rfl, .ty T, h1, L2.kit_ty h2, q⟩
  cases r with
  | non => exact fin "NoneType" (.base .non) (by cases e; rcases hT with rfl | rfl | rfl | rfl | rfl <;> decide +kernel)
  | bl c => exact fin "bool" (.base (.bl c)) (by rcases hT with rfl | rfl | rfl | rfl | rfl <;> (simp [isT] at e; subst e; decide +kernel))
  | int c => exact fin "int" (.base (.int c)) (by rcases hT with rfl | rfl | rfl | rfl | rfl <;> (simp [isT] at e; subst e; decide +kernel))
  | str c => exact fin "str" (.base (.str c)) (by rcases hT with rfl | rfl | rfl | rfl | rfl <;> (simp [isT] at e; subst e; decide +kernel))
  | tup h _ =>
    rename_i pa vsa dsa _
    have h1 : TyX X.K w.H (.ref pa) (.type "tuple") := by
      rcases h with (h | ⟨o, h⟩) | ⟨o, its, n, h, hc, _⟩
      · exact .base (.tup h)
      · exact .fTuple h
      · exact .kTuple h hc
    exact fin "tuple" h1 (by rcases hT with rfl | rfl | rfl | rfl | rfl <;> (simp [isT] at e; subst e; decide +kernel))
  | lst h _ _ => exact fin "list" (.base (.lst h)) (by rcases hT with rfl | rfl | rfl | rfl | rfl <;> (simp [isT] at e; subst e; decide +kernel))
  | scr _ => simp [isT] at e
  | ref _ => simp [isT] at e
end
end Kw

set_option Elab.async false
set_option linter.all false
set_option maxRecDepth 100000
/-! Kw: methods of built-in types; stores into lists and dicts. -/
namespace Kw
open PySem PySem.Spec PyProof.Rows L2

def Mt.name : Mt → Str
  | .append => "append"
  | .pop0 => "pop"
  | .pop1 => "pop"
  | .extend => "extend"
  | .insert => "insert"
  | .join => "join"
  | .split => "split"
  | .index => "index"
  | .get2 => "get"
def Mt.id : Mt → String
  | .append => "list.append"
  | .pop0 => "list.pop"
  | .pop1 => "list.pop"
  | .extend => "list.extend"
  | .insert => "list.insert"
  | .join => "str.join"
  | .split => "str.split"
  | .index => "list.index"
  | .get2 => "dict.get"
def Mt.ty : Mt → String
  | .join => "str"
  | .split => "str"
  | .get2 => "dict"
  | _ => "list"

section
variable {X : Cx} {w : Wd}
theorem mtTy_ok {m : Mt} {d : D} {x : V} (ok : Ok X.K w) (r : Rp X.K w d x) (h : mtTy m d w.st = true) : tyV X.K m.ty x w.H := by
  unfold mtTy at h
  split at h
  · cases r
    cases m <;> first | rfl | cases h
  · rename_i l
    cases r with
    | ref hl =>
      split at h
      · rename_i xs hy
        obtain ⟨_, vs, e, _⟩ := ok.ob l _ hy
        cases m <;> first | exact .inl ⟨rfl, vs, .inl (.inl e)⟩ | cases h
      · rename_i kvs hy
        obtain ⟨_, vs, e, _⟩ := ok.ob l _ hy
        cases m <;> first | exact .inr (.inr (.inl ⟨rfl, .inl ⟨vs, e⟩⟩)) | cases h
      · cases h
  · cases r with
    | lst e _ _ => cases m <;> first | exact .inl ⟨rfl, _, .inl (.inl e)⟩ | cases h
  · cases h
def OpM (K : PySem.W.Frag) (m : Mt) : V → List V → Hp → VK → Prop := fun x xs H Q => ∃ w o ds d st', w.H = H ∧ Ok K w ∧ Rp K w o x ∧ Rps K w ds xs ∧ mtD m o ds w.st = some (d, st') ∧ Post K w d st' Q
/-- an object of the store changed -/
theorem Post.chgL {K : PySem.W.Frag} {d : D} {v : V} {Q : VK} {l : Nat} {ds es : List D} {vs : List V} (h : Post K w d (w.st.set l (.lst es)) Q) (k : Ok K w) (e : w.st[l]? = some (.lst ds)) (r : Rps K w es vs) (u : D.unds l es = true) (rd : Rp K w d v) :
    Q v (upd w.H (w.io l) (.lst vs)) := by
  have le := k.le_chg (o := .lst vs) (mo := .lst es) e (fun z => by cases z)
  exact h (w.chg l (.lst vs) (.lst es)) v (k.chg e (fun z => by cases z) ⟨u, vs, upd_same, r.mono k le⟩) le rfl (rd.mono k le)
theorem Post.chgK {K : PySem.W.Frag} {d : D} {v : V} {Q : VK} {l : Nat} {ds es : List (L2.Key × D)} {vs : List (L2.Key × V)} (h : Post K w d (w.st.set l (.dK es)) Q) (k : Ok K w) (e : w.st[l]? = some (.dK ds)) (r : RpK K w es vs) (u : D.unds l (es.map (·.2)) = true) (rd : Rp K w d v) :
    Q v (upd w.H (w.io l) (.dK vs)) := by
  have le := k.le_chg (o := .dK vs) (mo := .dK es) e (fun z => by cases z)
  exact h (w.chg l (.dK vs) (.dK es)) v (k.chg e (fun z => by cases z) ⟨u, vs, upd_same, r.1, r.2.mono k le⟩) le rfl (rd.mono k le)
theorem ixOf_spec {K : PySem.W.Frag} {x : PyData} : ∀ {ds : List D} {j : Nat}, ixOf x ds = some j → ∃ d, ds[j]? = some d ∧ PyData.eqv d.py x = true ∧ ∀ m d', m < j → ds[m]? = some d' → PyData.eqv d'.py x = false
  | [], _, h => by cases h
  | d :: ds, j, h => by
    unfold ixOf at h
    split at h
    · rename_i c
      cases h
      exact ⟨d, rfl, c, fun m d' hm => absurd hm (Nat.not_lt_zero _)⟩
    · rename_i c
      rw [Option.map_eq_some_iff] at h
      obtain ⟨i, h, rfl⟩ := h
      obtain ⟨z, h1, h2, h3⟩ := ixOf_spec (K := K) h
      refine ⟨z, by simpa using h1, h2, fun m d' hm e => ?_⟩
      cases m with
      | zero => simp at e; subst e; simpa using c
      | succ m => exact h3 m d' (by omega) (by simpa using e)
theorem mt_ok (C : Calm X) (m : Mt) : MtR X m.id (OpM X.K m) := by
  rintro pins s σ H x xs v us Q I rx rv ⟨w, o, ds, d, st', rfl, ok, ro, rs, e, post⟩
  unfold mtD at e
  split at e
  · -- append
    rename_i l d1
    cases ro with
    | ref hl =>
      cases rs with
      | cons r1 r2 =>
        cases r2
        split at e
        · rename_i ys hy
          split at e
          · rename_i hc
            cases e
            simp only [Bool.and_eq_true, decide_eq_true_eq] at hc
            obtain ⟨u, vs, h, r⟩ := ok.ob l _ hy
            exact mt_append pins s σ w.H _ _ v us Q I rx rv ⟨_, vs, _, rfl, rfl, h, by rw [r.length]; exact lim_lt hc.2,
              post.chgL ok hy (r.append (.cons r1 .nil)) (by rw [D.unds_append, u]; simp [D.unds, D.und_clean _ hc.1]) .non⟩
          · cases e
        · cases e
  · -- pop0
    rename_i l
    cases ro with
    | ref hl =>
      cases rs
      split at e
      · rename_i ys hy
        split at e
        · rename_i d1 hd
          cases e
          obtain ⟨u, vs, h, r⟩ := ok.ob l _ hy
          obtain ⟨v1, g1, g2⟩ := r.get hd
          refine mt_pop pins s σ w.H _ _ v us Q I rx rv ⟨_, vs, v1, rfl, rfl, h, by rw [r.length]; exact g1, ?_⟩
          exact post.chgL ok hy r.dropLast (unds_of_sub u fun y hy => List.dropLast_subset _ hy) g2
        · cases e
      · cases e
  · -- pop1
    rename_i l i
    cases ro with
    | ref hl =>
      cases rs with
      | cons r1 r2 =>
        cases r2; cases r1
        split at e
        · rename_i ys hy
          split at e
          · rename_i hi
            split at e
            · rename_i d1 hd
              cases e
              obtain ⟨u, vs, h, r⟩ := ok.ob l _ hy
              obtain ⟨v1, g1, g2⟩ := r.get hd
              have hlt : i.toNat < vs.length := (List.getElem?_eq_some_iff.mp g1).1
              have hs : seqIndex? i vs.length = some i.toNat := (ixN_seq (by unfold ixN; rw [if_pos hi.1, if_pos (by omega)])).1
              refine mt_popAt pins s σ w.H _ _ v us Q I rx rv ⟨_, vs, i, i.toNat, v1, rfl, rfl, h, by omega, by omega, hs, g1, ?_⟩
              exact post.chgL ok hy (r.erase _) (unds_of_sub u fun y hy => List.mem_of_mem_eraseIdx hy) g2
            · cases e
          · cases e
        · cases e
  · -- extend
    rename_i l zs
    cases ro with
    | ref hl =>
      cases rs with
      | cons r1 r2 =>
        cases r2
        cases r1 with
        | lst h2 n2 r2 =>
          split at e
          · rename_i ys hy
            split at e
            · rename_i hc
              cases e
              simp only [Bool.and_eq_true, decide_eq_true_eq] at hc
              obtain ⟨u, vs, h, r⟩ := ok.ob l _ hy
              exact mt_extend pins s σ w.H _ _ v us Q I rx rv ⟨_, _, vs, _, rfl, rfl, h, h2, by rw [r.length, r2.length]; exact lim_size hc.2,
                post.chgL ok hy (r.append r2) (by rw [D.unds_append, u, D.unds_clean _ hc.1]; rfl) .non⟩
            · cases e
          · cases e
  · -- insert
    rename_i l i d1
    cases ro with
    | ref hl =>
      cases rs with
      | cons r1 r2 =>
        cases r2 with
        | cons r2 r3 =>
          cases r3; cases r1
          split at e
          · rename_i ys hy
            split at e
            · rename_i hc
              cases e
              obtain ⟨u, vs, h, r⟩ := ok.ob l _ hy
              refine mt_insert pins s σ w.H _ _ v us Q I rx rv ⟨_, vs, i, _, rfl, rfl, h, by rw [r.length]; exact lim_lt hc.2.2.2, hc.2.1, by omega, ?_⟩
              refine post.chgL ok hy (((r.take _).append (.cons r2 .nil)).append (r.drop _)) (unds_of_sub (xs := ys ++ [d1]) (by rw [D.unds_append, u]; simp [D.unds, D.und_clean _ hc.1]) fun y hy => ?_) .non
              rw [List.mem_append, List.mem_append] at hy
              rcases hy with (hy | hy) | hy
              · exact List.mem_append_left _ (List.mem_of_mem_take hy)
              · exact List.mem_append_right _ hy
              · exact List.mem_append_left _ (List.mem_of_mem_drop hy)
            · cases e
          · cases e
  · -- join
    rename_i a zs
    cases ro
    cases rs with
    | cons r1 r2 =>
      cases r2
      cases r1 with
      | lst h n r =>
        split at e
        · rename_i ys hy
          split at e
          · rename_i hl
            cases e
            have ev := r.strsOf hy
            subst ev
            exact mt_join pins s σ w.H _ _ v us Q I rx rv ⟨a, _, ys, rfl, rfl, .inl (.inl (.inl h)), Nat.le_trans hl (by decide), post.same ok (.str _)⟩
          · cases e
        · cases e
  · -- split
    rename_i a b
    split at e
    · rename_i hc
      cases e
      cases ro
      cases rs with
      | cons r1 r2 =>
        cases r2; cases r1
        exact mt_split pins s σ w.H _ _ v us Q I rx rv ⟨a, b, rfl, rfl, hc.1, Nat.le_trans (Nat.add_le_add_right hc.2 2) (by decide), fun p hp => post.lst ok hp (Rps.strs _)⟩
    · cases e
  · -- index
    rename_i ys d1
    split at e
    · rename_i hc
      rw [Option.map_eq_some_iff] at e
      obtain ⟨j, e, e2⟩ := e
      cases e2
      simp only [Bool.and_eq_true] at hc
      obtain ⟨c1, s1⟩ := eqOk_c hc.1
      obtain ⟨c2, s2⟩ := eqOk_c hc.2
      cases rs with
      | cons r1 r2 =>
        cases r2
        cases ro with
        | lst h n r =>
          obtain ⟨z, g1, g2, g3⟩ := ixOf_spec (K := X.K) e
          have d2 := Rp.dp c2 (.lst h n r)
          simp only [D.py] at d2 s2
          refine mt_indexD (by have := C.units; omega) pins s σ w.H _ _ v us Q I rx rv ⟨_, _, d1.py, D.pys ys, j, z.py, rfl, rfl, d2, Rp.dp c1 r1, s2, s1, ?_, g2, fun m z' hm hz => ?_, post.same ok (.int _)⟩
          · rw [D.pys_map, List.getElem?_map, g1]; rfl
          · rw [D.pys_map, List.getElem?_map, Option.map_eq_some_iff] at hz
            obtain ⟨d', hd', rfl⟩ := hz
            exact g3 m d' hm hd'
    · cases e
  · -- get2
    rename_i l k1 x1
    split at e
    · rename_i kvs k hy hk
      cases e
      cases ro with
      | ref hl =>
        cases rs with
        | cons r1 r2 =>
          cases r2 with
          | cons r2 r3 =>
            cases r3
            obtain ⟨_, ws, h, r⟩ := ok.ob l _ hy
            have ek := r1.key_of hk
            subst ek
            cases (show v = Value.ref (w.io l) from rx)
            obtain ⟨u1, u2, rfl, ru1, ru2⟩ := vals2 rv
            obtain ⟨k1, k2⟩ := r.look k
            have g : DGet w.H (w.io l) (kV k) (valV ws k) := DGet.k h
            refine d_get2 (by have := C.units; omega) I g ru1 ru2 fun w' s4 I4 rw' => ?_
            refine ⟨_, w.H, I4, rw', ?_⟩
            cases q : lookK kvs k with
            | none =>
              rw [k2 q]
              rw [q] at post
              exact post.same ok r2
            | some d1 =>
              obtain ⟨v1, e1, e2⟩ := k1 d1 q
              rw [e1]
              rw [q] at post
              exact post.same ok e2
    · cases e
  · cases e
/-- o[i] = v -/
theorem sub_ok (C : Calm X) {pins : List (Addr × Obj)} {s : Shared} {σ : L2.St} {o i d : D} {x y z : V} {ov iv u : Value} {st' : Store} {Q : Hp → Prop} (I : Inv X pins σ w.H s) (ok : Ok X.K w) (ro : Rp X.K w o x) (ri : Rp X.K w i y) (rd : Rp X.K w d z)
    (r1 : RelV x ov) (r2 : RelV y iv) (r3 : RelV z u) (e : subD o i d w.st = some st') (q : ∀ w', Ok X.K w' → Le w w' → w'.st = st' → Q w'.H) :
    wpAny (model X.prog X.w) X.A (setItem ov iv u) (fun _ s' => ∃ H', Inv X pins σ H' s' ∧ Q H') X.xe s := by
  have post : Post X.K w .non st' (fun _ H => Q H) := fun w' _ k l e _ => q w' k l e
  unfold subD at e
  split at e
  · rename_i l
    cases ro with
    | ref hl =>
      split at e
      · rename_i ys hy
        split at e
        · rename_i j
          split at e
          · rename_i j' hj
            split at e
            · rename_i hc
              cases e
              cases ri
              obtain ⟨un, vs, h, r⟩ := ok.ob l _ hy
              refine set_list pins s σ w.H _ _ z ov iv u _ I r1 r2 r3 ⟨_, vs, j, j', rfl, rfl, h, by rw [r.length]; exact hj, ?_⟩
              refine post.chgL (v := .non) ok hy (r.set _ rd) (unds_of_sub (xs := d :: ys) (by simp [D.unds, un, D.und_clean _ hc]) fun y hy => ?_) .non
              rcases List.mem_or_eq_of_mem_set hy with z | z
              · exact List.mem_cons_of_mem _ z
              · rw [z]; exact List.mem_cons_self
            · cases e
          · cases e
        · cases e
      · rename_i kvs hy
        split at e
        · rename_i k hk
          split at e
          · rename_i hc
            cases e
            simp only [Bool.and_eq_true, decide_eq_true_eq] at hc
            have ek := ri.key_of hk
            subst ek
            obtain ⟨un, ws, h, r⟩ := ok.ob l _ hy
            have hlen : ws.length = kvs.length := by have := congrArg List.length r.1; simpa using this
            refine set_dict (by have := C.units; omega) pins s σ w.H _ _ z ov iv u _ I r1 r2 r3 ⟨_, _, rfl, DPut.k h (by rw [hlen]; exact lim_lt hc.2), ?_⟩
            refine post.chgK (v := .non) ok hy (r.put k rd) (unds_of_sub (xs := d :: kvs.map (·.2)) (by simp [D.unds, un, D.und_clean _ hc.1]) fun y hy => ?_) .non
            rcases putK_sub y hy with z | z
            · exact List.mem_cons_of_mem _ z
            · rw [z]; exact List.mem_cons_self
          · cases e
        · cases e
      · cases e
  · cases e
end
end Kw

set_option Elab.async false
set_option linter.all false
set_option maxRecDepth 100000
set_option maxHeartbeats 1000000
/-! Kw: what is walked. -/
namespace Kw
open PySem PySem.Spec PyProof.Rows L2

/-! ### enumerate over a tuple -/
theorem meets_enum_newT (l : Addr) (items : Array Value) :
    Meets (Builtin.«enumerate.__new__» ⟨[.type "enumerate", .ref l], []⟩) (fun _ R s => s.heap.IsTuple l items ∧
      R (.ok (.ret (.ref (s.heap.push { cls := .type "tuple_iterator", data := .fields #[.ref l, .int 0 0] }).objs.size)))
        { s with heap := (s.heap.push { cls := .type "tuple_iterator", data := .fields #[.ref l, .int 0 0] }).push { cls := .type "enumerate", data := .fields #[.none, .bool false, .ref s.heap.objs.size, rawInt 0, .none, .none] } }) :=
  .of_wp fun prog w A R s h => by
    obtain ⟨hp, g, d, tk, os⟩ := s
    obtain ⟨hL, h⟩ := h
    have hsub := sub_enumerate
    have q1 : ∀ {A' : Around} {E : Value → Shared → Prop} {Q : Value → Shared → Prop}, Q (.ref hp.objs.size) ⟨hp.push { cls := .type "tuple_iterator", data := .fields #[.ref l, .int 0 0] }, g, d, tk, os⟩ → wpAny (model prog w) A' (pyIter (.ref l)) Q E ⟨hp, g, d, tk, os⟩ :=
      fun q => wpAny_pyIter_tuple hL q
    wp_walk using q1
    refine wpAny_stack_any fun st => wpAny_pure ?_
    split
    · rename_i c _ _ _ _ _
      cases (c == Value.type "enumerate")
      · wp_walk using q1
        exact ⟨_, rfl, h⟩
      · wp_walk using q1
        exact ⟨_, rfl, h⟩
    · wp_walk using q1
      exact ⟨_, rfl, h⟩
section
variable {prog : Program} {w : World} {A : Around} {E : Value → Shared → Prop} {s : Shared}
theorem call_enum_tuple {l : Addr} {items : Array Value} {Q : Value → Shared → Prop} (hL : s.heap.IsTuple l items)
    (h : ∀ h', IsEnum h' (s.heap.objs.size + 1) s.heap.objs.size 0 .none → h'.IsTupleIter s.heap.objs.size l 0 → h'.objs.size = s.heap.objs.size + 2 →
      (∀ b o, s.heap.get? b = some o → h'.get? b = some o) → Q (.ref (s.heap.objs.size + 1)) { s with heap := h' }) :
    wpAny (model prog w) A (call (.type "enumerate") [.ref l]) Q E s := by
  refine callType_new F.called_enumerate (by decide) (F.typeCall_enumerate_1 _) (F.newCall_enumerate_1 _) (fun obj => F.args_object_init_2 obj _) F.entry_enumerate_new
    (meets_enum_newT l items) ⟨hL, ?_⟩
  generalize ho : ({ cls := .type "tuple_iterator", data := .fields #[.ref l, .int 0 0] } : Obj) = oi
  have hz : (s.heap.push oi).objs.size = s.heap.objs.size + 1 := Heap.size_push ..
  show _ ∧ _
  rw [hz]
  have he : IsEnum ((s.heap.push oi).push { cls := .type "enumerate", data := .fields #[.none, .bool false, .ref s.heap.objs.size, rawInt 0, .none, .none] }) (s.heap.objs.size + 1) s.heap.objs.size 0 .none := by
    have := Heap.get?_push_size (s.heap.push oi) (o := { cls := .type "enumerate", data := .fields #[.none, .bool false, .ref s.heap.objs.size, rawInt 0, .none, .none] }) rfl
    rw [hz] at this
    exact this
  refine ⟨⟨_, he, rfl⟩, h _ he ⟨oi, Heap.get?_push_of_some _ (Heap.get?_push_size _ (by rw [← ho]; rfl)), by rw [← ho], by rw [← ho]; rfl⟩ (by rw [Heap.size_push, hz]) fun b o y => Heap.get?_push_of_some _ (Heap.get?_push_of_some _ y)⟩
end
/-- the tuple at a, each item in a new pair -/
def Itet (K : PySem.W.Frag) (a : Addr) : L2.It :=
  ⟨fun i H => ∃ (xs : List V) (x : V), SqT K H a xs ∧ xs[i]? = some x, fun i H v H' => ∃ T x, v = .ref T ∧ H T = none ∧ H' = upd H T (.tup [.int (i : Nat), x]) ∧ ∀ xs, SqT K H a xs → xs[i]? = some x, fun i H => ∃ xs : List V, SqT K H a xs ∧ xs.length ≤ i⟩
theorem apart_tup {h : Heap} {a e it : Addr} {items : Array Value} {i : Nat} {old : Value} {c : Int} (ht : h.IsTuple a items) (he : IsEnum h e it c old) (hit : h.IsTupleIter it a i) : a ≠ it ∧ e ≠ it ∧ e ≠ a := by
  obtain ⟨o1, e1, c1, _⟩ := ht
  obtain ⟨o2, e2, c2, _⟩ := hit
  refine ⟨?_, ?_, ?_⟩
  · rintro rfl
    rw [e1] at e2
    cases e2
    rw [c1] at c2
    exact absurd (Value.type.inj c2) (by decide)
  · rintro rfl
    have e3 : h.get? e = _ := he
    rw [e3] at e2
    cases e2
    exact absurd (Value.type.inj c2) (by decide)
  · rintro rfl
    have e3 : h.get? e = _ := he
    rw [e3] at e1
    cases e1
    exact absurd (Value.type.inj c1) (by decide)
theorem turn_enumT {P : Program} {w : World} {K : PySem.W.Frag} {elts : List Expr} {kk : Nat} {tpos : Pos} (a e it : Addr) :
    Turn P w K (.Tuple elts kk tpos) (Itet K a) [e, it] e (fun i h => (∃ old, IsEnum h e it ((i : Nat) : Int) old) ∧ h.IsTupleIter it a i) where
  mem := by simp
  obj := fun i h st b hb => by
    obtain ⟨⟨old, he⟩, ⟨o, ho, hc, hd⟩⟩ := st
    have e' : b = e ∨ b = it := by simpa using hb
    rcases e' with z | z
    · rw [z]; exact ⟨_, he, fun v q => nomatch q⟩
    · rw [z]; exact ⟨o, ho, fun v q => by rw [hd] at q; cases q⟩
  keep := fun i h h' st k => let ⟨⟨old, he⟩, hi⟩ := st; ⟨⟨old, k e (by simp) _ he⟩, hi.at fun o q => k it (by simp) o q⟩
  item := by
    intro X hP hw hK hc i pins s σ H E I hf st hg
    subst hP hw hK
    obtain ⟨⟨old, he⟩, hit⟩ := st
    obtain ⟨xs, x, hq, hx⟩ := hg
    obtain ⟨its, rv, p, hz⟩ := I.tuple hq
    obtain ⟨u, hu, ru⟩ := rv.get hx
    have p' : s.heap.IsTuple a its.toArray := p
    obtain ⟨n1, n2, n3⟩ := apart_tup p' he hit
    have hel : e < s.heap.objs.size := Heap.lt_size he
    have hil : it < s.heap.objs.size := by obtain ⟨_, q, _⟩ := hit; exact Heap.lt_size q
    have D : Draws X.prog X.w X.A.in1 it [it, a] its.toArray.size (fun i v => its.toArray[i]? = some v) (fun i h => h.IsTupleIter it a i ∧ h.IsTuple a its.toArray) := Draws.tuple (show X.A.in1.handled = none from I.ok.hd hc) it a n1 its.toArray
    have hlt : i < its.toArray.size := by
      rw [List.size_toArray]
      exact (List.getElem?_eq_some_iff.mp hu).1
    refine wpAny_pyNext_enum_itemC D he ⟨hit, p'⟩ hlt n2 (by simp [n2, n3]) fun y h' tk hy ho st' hT hsz hk => ?_
    have ey : y = u := by
      rw [show its.toArray[i]? = some u by simpa using hu] at hy
      exact (Option.some.inj hy).symm
    subst ey
    refine ⟨_, rfl, wpAny_letOwnedTupleGo_enum (s := { s with heap := h', toks := tk + 1 }) ho fun h'' he' sb => ?_⟩
    have hT2 : h''.get? s.heap.objs.size = some { cls := .type "tuple", data := .seq #[.int i tk, y] } := (sb.2 _ (Nat.ne_of_gt hel)).trans hT
    have new : ObjOk X.prog X.w (upd H s.heap.objs.size (.tup [.int (i : Nat), x])) h'' s.heap.objs.size (.tup [.int (i : Nat), x]) :=
      ⟨by show 2 ≤ sizeLine; decide, [.int i tk, y], .cons ⟨_, rfl⟩ (.cons ru .nil), ⟨_, hT2, rfl, _, rfl⟩⟩
    have I1 : Inv X pins σ (upd H s.heap.objs.size (.tup [.int (i : Nat), x])) { s with heap := h'', toks := tk + 1 } :=
      I.turnedNew (ch := [e, it]) (fun b ob hb q => (sb.2 b (fun z => hb (by simp [z]))).trans (hk b ob (fun z => hb (by simp [z])) (fun z => hb (by simp [z])) q)) hf (Nat.le_refl _) new
    refine ⟨.ref s.heap.objs.size, _, I1, rfl, ⟨_, x, rfl, I.hok.fresh (Nat.le_refl _), rfl, fun ys hy => by rw [I.tuple_inj hy hq]; exact hx⟩, ⟨⟨y, ?_⟩, st'.1.at fun o q => (sb.2 it (Ne.symm n2)).trans q⟩, fun b hb => ?_⟩
    · have e1 : ((i + 1 : Nat) : Int) = (i : Int) + 1 := by omega
      rw [e1]; exact he'
    · have hb' : b < s.heap.objs.size := by
        have e' : b = e ∨ b = it := by simpa using hb
        rcases e' with z | z
        · rw [z]; exact hel
        · rw [z]; exact hil
      rw [upd_ne (Nat.ne_of_lt hb')]
      exact (hf b hb).1
  done := by
    intro X hP hw hK hc i pins s σ H E I hf st hg
    subst hP hw hK
    obtain ⟨⟨old, he⟩, hit⟩ := st
    obtain ⟨xs, hq, hx⟩ := hg
    obtain ⟨its, rv, p, hz⟩ := I.tuple hq
    have p' : s.heap.IsTuple a its.toArray := p
    obtain ⟨n1, n2, n3⟩ := apart_tup p' he hit
    obtain ⟨f0, f1, f2, f3, f4, f5⟩ := hf it (by simp)
    have hl := rv.length
    have D : Draws X.prog X.w X.A.in1 it [it, a] i (fun i v => its.toArray[i]? = some v) (fun j h => j = i ∧ h.IsTupleIter it a i ∧ h.IsTuple a its.toArray) :=
      { live := fun _ _ st => let ⟨o, ho, _⟩ := st.2.1; ⟨o, ho⟩
        frame := fun _ _ _ st hk => ⟨st.1, st.2.1.at fun o e => hk it (by simp) o e, st.2.2.at fun o e => hk a (by simp) o e⟩
        item := fun j s Q E hi st hQ => absurd st.1 (Nat.ne_of_lt hi)
        done := fun s Q E st hE => wpAny_nextOf_tuple_end (show X.A.in1.handled = none from I.ok.hd hc) st.2.1 st.2.2 (by simp; omega) hE }
    exact wpAny_pyNext_enum_endD D he ⟨rfl, hit, p'⟩ fun h' eb => ⟨rfl, I.turned (t' := s.toks) (fun b o hb q => eb b o hb q) f0 f1 f3 f4 f5⟩
  self := fun A i s Q E st h => let ⟨⟨_, he⟩, _⟩ := st; wpAny_pyIter_enum he h
end Kw

set_option Elab.async false
set_option linter.all false
set_option maxRecDepth 100000
set_option maxHeartbeats 1000000
/-! Kw: the readings; what is walked, as plain data. -/
namespace Kw
open PySem PySem.Spec PyProof.Rows L2

def EnvR (K : PySem.W.Frag) (w : Wd) (env : Env) (σ : L2.St) : Prop := σ.length = env.length ∧ ∀ (i : Nat) (d : D), env[i]? = some (some d) → ∃ v : V, σ[i]? = some (some v) ∧ Rp K w d v
theorem EnvR.mono {K : PySem.W.Frag} {w w' : Wd} {env : Env} {σ : L2.St} (h : EnvR K w env σ) (k : Ok K w) (le : Le w w') : EnvR K w' env σ :=
  ⟨h.1, fun i d e => let ⟨v, h1, h2⟩ := h.2 i d e; ⟨v, h1, h2.mono k le⟩⟩
theorem EnvR.set {K : PySem.W.Frag} {w : Wd} {env : Env} {σ : L2.St} (h : EnvR K w env σ) (i : Nat) {d : D} {v : V} (r : Rp K w d v) : EnvR K w (env.set i (some d)) (σ.set i (some v)) := by
  refine ⟨by rw [List.length_set, List.length_set]; exact h.1, fun j e q => ?_⟩
  by_cases hj : i = j
  · subst hj
    have hl : i < env.length := by have := (List.getElem?_eq_some_iff.mp q).1; rwa [List.length_set] at this
    rw [List.getElem?_set_self hl] at q
    cases q
    exact ⟨v, List.getElem?_set_self (by rw [h.1]; exact hl), r⟩
  · rw [List.getElem?_set_ne hj] at q ⊢
    exact h.2 j e q
theorem EnvR.wipe {K : PySem.W.Frag} {w : Wd} {env : Env} {σ : L2.St} (h : EnvR K w env σ) : ∀ vs : List Nat, EnvR K w (wipeD env vs) (L2.wipe σ vs)
  | [] => h
  | v :: vs => by
    have q := EnvR.wipe h vs
    refine ⟨by unfold L2.wipe wipeD; rw [List.length_set, List.length_set]; exact q.1, fun j e z => ?_⟩
    unfold wipeD at z
    unfold L2.wipe
    by_cases hj : v = j
    · subst hj
      have hl : v < (wipeD env vs).length := by have := (List.getElem?_eq_some_iff.mp z).1; rwa [List.length_set] at this
      rw [List.getElem?_set_self hl] at z
      cases z
    · rw [List.getElem?_set_ne hj] at z ⊢
      exact q.2 j e z

def SemE (K : PySem.W.Frag) (ev : Env → Store → R D) : TE := fun σ H Q => ∃ w env d st', w.H = H ∧ Ok K w ∧ EnvR K w env σ ∧ ev env w.st = some (d, st') ∧ Post K w d st' Q
def PostA (K : PySem.W.Frag) (w : Wd) (ds : List D) (st' : Store) (Q : List V → Hp → Prop) : Prop := ∀ w' vs, Ok K w' → Le w w' → w'.st = st' → Rps K w' ds vs → Q vs w'.H
def SemA (K : PySem.W.Frag) (ev : Env → Store → R (List D)) : TA := fun σ H Q => ∃ w env ds st', w.H = H ∧ Ok K w ∧ EnvR K w env σ ∧ ev env w.st = some (ds, st') ∧ PostA K w ds st' Q
def PostB {α : Type} (K : PySem.W.Frag) (w : Wd) (b : α) (st' : Store) (Q : α → Hp → Prop) : Prop := ∀ w', Ok K w' → Le w w' → w'.st = st' → Q b w'.H
def SemT (K : PySem.W.Frag) (ev : Env → Store → R Bool) : TT := fun σ H Q => ∃ w env b st', w.H = H ∧ Ok K w ∧ EnvR K w env σ ∧ ev env w.st = some (b, st') ∧ PostB K w b st' Q
def SemO (K : PySem.W.Frag) (ev : Env → Store → R (Option Int)) : TO := fun σ H Q => ∃ w env b st', w.H = H ∧ Ok K w ∧ EnvR K w env σ ∧ ev env w.st = some (b, st') ∧ PostB K w b st' Q
def JOk (K : PySem.W.Frag) (J : L2.It) (w1 : Wd) (ds : List D) : Prop := ∀ w', Ok K w' → Le w1 w' → ∀ i, (ds.length ≤ i → J.stop i w'.H) ∧ ∀ d, ds[i]? = some d → J.go i w'.H ∧ ∀ x H', J.yld i w'.H x H' → ∃ w2, Ok K w2 ∧ Le w' w2 ∧ w2.st = w'.st ∧ w2.H = H' ∧ Rp K w2 d x
def SemI (K : PySem.W.Frag) (ev : Env → Store → R (List D)) : TI := fun σ H R => ∃ w env ds st', w.H = H ∧ Ok K w ∧ EnvR K w env σ ∧ ev env w.st = some (ds, st') ∧ ∀ w' J, Ok K w' → Le w w' → w'.st = st' → JOk K J w' ds → R J w'.H

theorem peTo {X : Cx} {e : Expr} {t t' : TE} (h : PE X e t) (k : ∀ σ H Q, t' σ H Q → t σ H Q) : PE X e t' := ⟨fun pins s σ H Q I q => h.run pins s σ H Q I (k σ H Q q)⟩
theorem ptTo {X : Cx} {e : Expr} {t t' : TT} (h : PT X e t) (k : ∀ σ H Q, t' σ H Q → t σ H Q) : PT X e t' := ⟨fun pins s σ H Q I q => h.run pins s σ H Q I (k σ H Q q)⟩
theorem pwTo {X : Cx} {e : Expr} {t t' : TT} (h : PW X e t) (k : ∀ σ H Q, t' σ H Q → t σ H Q) : PW X e t' := ⟨fun wh pins s σ H Q I q => h.run wh pins s σ H Q I (k σ H Q q)⟩
theorem paTo {X : Cx} {e : List Expr} {t t' : TA} (h : PA X e t) (k : ∀ σ H Q, t' σ H Q → t σ H Q) : PA X e t' := ⟨fun pos pins s σ H Q I q => h.run pos pins s σ H Q I (k σ H Q q)⟩
theorem poTo {X : Cx} {e : Option Expr} {t t' : TO} (h : PO X e t) (k : ∀ σ H Q, t' σ H Q → t σ H Q) : PO X e t' := ⟨fun pins s σ H Q I q => h.run pins s σ H Q I (k σ H Q q)⟩
theorem psTo {X : Cx} {e : Stmt} {t t' : TS} (h : PS X e t) (k : ∀ D σ H, t' D σ H → t D σ H) : PS X e t' := ⟨fun pins s σ H D I q => h.run pins s σ H D I (k D σ H q)⟩
theorem pssTo {X : Cx} {e : List Stmt} {t t' : TS} (h : PSs X e t) (k : ∀ D σ H, t' D σ H → t D σ H) : PSs X e t' := ⟨fun pins s σ H D I q => h.run pins s σ H D I (k D σ H q)⟩
theorem piTo {X : Cx} {tg e : Expr} {t t' : TI} (h : PI X tg e t) (k : ∀ σ H R, t' σ H R → t σ H R) : PI X tg e t' := ⟨fun pins s σ H R I q => h.run pins s σ H R I (k σ H R q)⟩

theorem bind_some {α β : Type} {x : R α} {f : α → Store → R β} {r : β × Store} (h : R.bind x f = some r) : ∃ a st, x = some (a, st) ∧ f a st = some r := by
  unfold R.bind at h
  split at h
  · cases h
  · rename_i p
    exact ⟨p.1, p.2, rfl, h⟩
theorem map_some {α β : Type} {x : Option α} {f : α → β} {r : β} (h : x.map f = some r) : ∃ a, x = some a ∧ f a = r := by
  cases x with
  | none => cases h
  | some a => exact ⟨a, rfl, Option.some.inj h⟩

section
variable {K : PySem.W.Frag} {w1 : Wd}
/-- what yields without a new object -/
theorem JOk.still {J : L2.It} {ds : List D} (hs : ∀ w', Ok K w' → Le w1 w' → ∀ i, ds.length ≤ i → J.stop i w'.H) (hg : ∀ w', Ok K w' → Le w1 w' → ∀ i d, ds[i]? = some d → J.go i w'.H ∧ ∀ x H', J.yld i w'.H x H' → H' = w'.H ∧ Rp K w' d x) : JOk K J w1 ds := fun w' k le i =>
  ⟨hs w' k le i, fun d e => ⟨(hg w' k le i d e).1, fun x H' y => let ⟨e1, r⟩ := (hg w' k le i d e).2 x H' y; ⟨w', k, Le.refl _, rfl, e1.symm, r⟩⟩⟩
/-- what yields a new pair -/
theorem JOk.pairs {J : L2.It} {ds : List D} (hs : ∀ w', Ok K w' → Le w1 w' → ∀ i, ds.length ≤ i → J.stop i w'.H)
    (hg : ∀ w', Ok K w' → Le w1 w' → ∀ i d, ds[i]? = some d → J.go i w'.H ∧ ∀ x H', J.yld i w'.H x H' → ∃ T y z a b, x = .ref T ∧ w'.H T = none ∧ H' = upd w'.H T (.tup [y, z]) ∧ d = .tup [a, b] ∧ Rp K w' a y ∧ Rp K w' b z) : JOk K J w1 ds := fun w' k le i =>
  ⟨hs w' k le i, fun d e => ⟨(hg w' k le i d e).1, fun x H' y0 => by
    obtain ⟨T, y, z, a, b, rfl, hT, rfl, rfl, r1, r2⟩ := (hg w' k le i d e).2 x H' y0
    exact ⟨w'.put T (.tup [y, z]), k.put hT, k.le_put hT, rfl, rfl, .tup (.inl (.inl upd_same)) (.cons (r1.mono k (k.le_put hT)) (.cons (r2.mono k (k.le_put hT)) .nil))⟩⟩⟩
theorem jok_list {a : Addr} {vs : List V} {ds : List D} (k1 : Ok K w1) (h : w1.H a = some (.lst vs)) (n : ¬ w1.live a) (r : Rps K w1 ds vs) : JOk K (Itl K a) w1 ds := by
  refine .still (fun w' k le i hi => ⟨vs, .inl (.inl (le.fr _ _ h n)), by rw [r.length]; exact hi⟩) fun w' k le i d e => ?_
  have q : SqL K w'.H a vs := .inl (.inl (le.fr _ _ h n))
  obtain ⟨v, h1, h2⟩ := (r.mono k1 le).get e
  exact ⟨⟨vs, v, q, h1⟩, fun x H' y => ⟨y.1, by have z := y.2 vs q; rw [h1] at z; cases z; exact h2⟩⟩
theorem jok_scr {a : Addr} {ns : List Int} (k1 : Ok K w1) (h : Still K w1.H a (ns.map V.int)) : JOk K (Itl K a) w1 (ns.map D.int) := by
  refine .still (fun w' k le i hi => ⟨_, (k1.still le h).sq, by simpa using hi⟩) fun w' k le i d e => ?_
  have q : SqL K w'.H a (ns.map V.int) := (k1.still le h).sq
  obtain ⟨v, h1, h2⟩ := (Rps.ints (K := K) (w := w') ns).get e
  exact ⟨⟨_, v, q, h1⟩, fun x H' y => ⟨y.1, by have z := y.2 _ q; rw [h1] at z; cases z; exact h2⟩⟩
theorem jok_tup {a : Addr} {vs : List V} {ds : List D} (k1 : Ok K w1) (h : SqT K w1.H a vs) (r : Rps K w1 ds vs) : JOk K (Itt K a) w1 ds := by
  refine .still (fun w' k le i hi => ⟨vs, k1.rdT le h, by rw [r.length]; exact hi⟩) fun w' k le i d e => ?_
  have q : SqT K w'.H a vs := k1.rdT le h
  obtain ⟨v, h1, h2⟩ := (r.mono k1 le).get e
  exact ⟨⟨vs, v, q, h1⟩, fun x H' y => ⟨y.1, by have z := y.2 vs q; rw [h1] at z; cases z; exact h2⟩⟩
theorem jok_str {s : Str} : JOk K (Its s) w1 (s.cps.toList.map fun c => D.str ⟨#[c]⟩) := by
  refine .still (fun w' k le i hi => by simpa [Its] using hi) fun w' k le i d e => ?_
  have hi : i < s.cps.size := by have := (List.getElem?_eq_some_iff.mp e).1; simpa using this
  refine ⟨hi, fun x H' y => ⟨y.1, ?_⟩⟩
  obtain ⟨c, hc, rfl⟩ := y.2
  have : d = .str ⟨#[c]⟩ := by
    rw [List.getElem?_map, Array.getElem?_toList, hc] at e
    cases e; rfl
  subst this
  exact .str _
theorem rngD_get {a b : Int} {i : Nat} {d : D} (e : (rngD a b)[i]? = some d) : i < (b - a).toNat ∧ d = .int (a + i) := by
  unfold rngD at e
  rw [List.getElem?_map] at e
  cases q : (List.range (b - a).toNat)[i]? with
  | none => rw [q] at e; cases e
  | some j =>
    rw [q] at e
    obtain ⟨h1, h2⟩ := List.getElem?_eq_some_iff.mp q
    rw [List.getElem_range] at h2
    subst h2
    rw [List.length_range] at h1
    cases e
    exact ⟨h1, rfl⟩
theorem rngD_len (a b : Int) : (rngD a b).length = (b - a).toNat := by simp [rngD]
theorem jok_rng {a b : Int} : JOk K (Itr a (b - a).toNat) w1 (rngD a b) := by
  refine .still (fun w' k le i hi => by rw [rngD_len] at hi; exact hi) fun w' k le i d e => ?_
  obtain ⟨h1, rfl⟩ := rngD_get e
  exact ⟨h1, fun x H' y => ⟨y.1, by rw [y.2]; exact .int _⟩⟩
theorem jok_rrng {b : Int} : JOk K (Itc ((0 : Int) + (((b - 0).toNat : Nat) : Int) - 1) (-1) (b - 0).toNat) w1 (rngD 0 b).reverse := by
  refine .still (fun w' k le i hi => by rw [List.length_reverse, rngD_len] at hi; exact hi) fun w' k le i d e => ?_
  have hi : i < (rngD 0 b).reverse.length := (List.getElem?_eq_some_iff.mp e).1
  rw [List.length_reverse] at hi
  rw [List.getElem?_reverse hi] at e
  obtain ⟨h1, rfl⟩ := rngD_get e
  rw [rngD_len] at h1 hi ⊢
  refine ⟨by show i < (b - 0).toNat; exact hi, fun x H' y => ⟨y.1, ?_⟩⟩
  have e1 : x = .int (0 + (((b - 0).toNat : Nat) : Int) - 1 + (i : Nat) * (-1)) := y.2
  rw [e1, show (0 + (((b - 0).toNat : Nat) : Int) - 1 + (i : Nat) * (-1)) = ((0 : Int) + (((b - 0).toNat - 1 - i : Nat) : Int)) by omega]
  exact .int _
theorem enumD_get : ∀ {ds : List D} {k i : Nat} {d : D}, (enumD k ds)[i]? = some d → ∃ x, ds[i]? = some x ∧ d = .tup [.int ((k + i : Nat) : Int), x]
  | [], _, _, _, e => by simp [enumD] at e
  | x :: ds, k, 0, d, e => by
    simp [enumD] at e
    exact ⟨x, rfl, by simpa using e.symm⟩
  | x :: ds, k, i + 1, d, e => by
    obtain ⟨y, h1, h2⟩ := enumD_get (ds := ds) (k := k + 1) (i := i) (by simpa [enumD] using e)
    exact ⟨y, by simpa using h1, by rw [h2, show k + 1 + i = k + (i + 1) by omega]⟩
theorem enumD_len : ∀ (ds : List D) (k : Nat), (enumD k ds).length = ds.length
  | [], _ => rfl
  | x :: ds, k => by simp [enumD, enumD_len ds]
theorem jok_enumL {a : Addr} {vs : List V} {ds : List D} (k1 : Ok K w1) (h : w1.H a = some (.lst vs)) (n : ¬ w1.live a) (r : Rps K w1 ds vs) : JOk K (Ite K a) w1 (enumD 0 ds) := by
  refine .pairs (fun w' k le i hi => ⟨vs, .inl (.inl (le.fr _ _ h n)), by rw [enumD_len] at hi; rw [r.length]; exact hi⟩) fun w' k le i d e => ?_
  have q : SqL K w'.H a vs := .inl (.inl (le.fr _ _ h n))
  obtain ⟨x0, e1, e2⟩ := enumD_get e
  obtain ⟨v, h1, h2⟩ := (r.mono k1 le).get e1
  refine ⟨⟨vs, v, q, h1⟩, fun x H' y => ?_⟩
  obtain ⟨T, z, y1, y2, y3, y4⟩ := y
  have e3 := y4 vs q
  rw [h1] at e3
  cases e3
  exact ⟨T, .int (i : Nat), v, .int ((i : Nat) : Int), x0, y1, y2, y3, by rw [e2, Nat.zero_add], .int _, h2⟩
theorem jok_enumT {a : Addr} {vs : List V} {ds : List D} (k1 : Ok K w1) (h : SqT K w1.H a vs) (r : Rps K w1 ds vs) : JOk K (Itet K a) w1 (enumD 0 ds) := by
  refine .pairs (fun w' k le i hi => ⟨vs, k1.rdT le h, by rw [enumD_len] at hi; rw [r.length]; exact hi⟩) fun w' k le i d e => ?_
  have q : SqT K w'.H a vs := k1.rdT le h
  obtain ⟨x0, e1, e2⟩ := enumD_get e
  obtain ⟨v, h1, h2⟩ := (r.mono k1 le).get e1
  refine ⟨⟨vs, v, q, h1⟩, fun x H' y => ?_⟩
  obtain ⟨T, z, y1, y2, y3, y4⟩ := y
  have e3 := y4 vs q
  rw [h1] at e3
  cases e3
  exact ⟨T, .int (i : Nat), v, .int ((i : Nat) : Int), x0, y1, y2, y3, by rw [e2, Nat.zero_add], .int _, h2⟩
theorem zipD_get : ∀ {ds es : List D} {i : Nat} {d : D}, (zipD ds es)[i]? = some d → ∃ x y, ds[i]? = some x ∧ es[i]? = some y ∧ d = .tup [x, y]
  | [], _, _, _, e => by simp [zipD] at e
  | _ :: _, [], _, _, e => by simp [zipD] at e
  | x :: ds, y :: es, 0, d, e => by
    simp [zipD] at e
    exact ⟨x, y, rfl, rfl, e.symm⟩
  | x :: ds, y :: es, i + 1, d, e => by
    obtain ⟨a, b, h1, h2, h3⟩ := zipD_get (ds := ds) (es := es) (i := i) (by simpa [zipD] using e)
    exact ⟨a, b, by simpa using h1, by simpa using h2, h3⟩
theorem zipD_len : ∀ (ds es : List D), (zipD ds es).length = min ds.length es.length
  | [], es => by simp [zipD]
  | _ :: _, [] => by simp [zipD]
  | x :: ds, y :: es => by simp only [zipD, List.length_cons, zipD_len ds es]; omega
theorem jok_zipL {a b : Addr} {vs us : List V} {ds es : List D} (k1 : Ok K w1) (h : w1.H a = some (.lst vs)) (n : ¬ w1.live a) (r : Rps K w1 ds vs) (h' : w1.H b = some (.lst us)) (n' : ¬ w1.live b) (r' : Rps K w1 es us) : JOk K (Itz K a b) w1 (zipD ds es) := by
  refine .pairs (fun w' k le i hi => ⟨vs, us, .inl (.inl (le.fr _ _ h n)), .inl (.inl (le.fr _ _ h' n')), by rw [zipD_len] at hi; rw [r.length, r'.length]; omega⟩) fun w' k le i d e => ?_
  have q : SqL K w'.H a vs := .inl (.inl (le.fr _ _ h n))
  have q' : SqL K w'.H b us := .inl (.inl (le.fr _ _ h' n'))
  obtain ⟨x0, y0, e1, e2, e3⟩ := zipD_get e
  obtain ⟨v, h1, h2⟩ := (r.mono k1 le).get e1
  obtain ⟨u, h3, h4⟩ := (r'.mono k1 le).get e2
  refine ⟨⟨vs, us, v, u, q, q', h1, h3⟩, fun x H' y => ?_⟩
  obtain ⟨T, z, z', y1, y2, y3, y4, y5⟩ := y
  have e4 := y4 vs q
  have e5 := y5 us q'
  rw [h1] at e4
  rw [h3] at e5
  cases e4
  cases e5
  exact ⟨T, v, u, x0, y0, y1, y2, y3, e3, h2, h4⟩
theorem jok_zipT {a b : Addr} {vs us : List V} {ds es : List D} (k1 : Ok K w1) (h : SqT K w1.H a vs) (r : Rps K w1 ds vs) (h' : SqT K w1.H b us) (r' : Rps K w1 es us) : JOk K (RZ.ItzT K a b) w1 (zipD ds es) := by
  refine .pairs (fun w' k le i hi => ⟨vs, us, k1.rdT le h, k1.rdT le h', by rw [zipD_len] at hi; rw [r.length, r'.length]; omega⟩) fun w' k le i d e => ?_
  have q : SqT K w'.H a vs := k1.rdT le h
  have q' : SqT K w'.H b us := k1.rdT le h'
  obtain ⟨x0, y0, e1, e2, e3⟩ := zipD_get e
  obtain ⟨v, h1, h2⟩ := (r.mono k1 le).get e1
  obtain ⟨u, h3, h4⟩ := (r'.mono k1 le).get e2
  refine ⟨⟨vs, us, v, u, q, q', h1, h3⟩, fun x H' y => ?_⟩
  obtain ⟨T, z, z', y1, y2, y3, y4, y5⟩ := y
  have e4 := y4 vs q
  have e5 := y5 us q'
  rw [h1] at e4
  rw [h3] at e5
  cases e4
  cases e5
  exact ⟨T, v, u, x0, y0, y1, y2, y3, e3, h2, h4⟩
end

section
variable {X : Cx}
theorem Rps.one {K : PySem.W.Frag} {w : Wd} {d : D} {vs : List V} (h : Rps K w [d] vs) : ∃ v, vs = [v] ∧ Rp K w d v := by
  cases h with
  | cons h r => cases r; exact ⟨_, rfl, h⟩
theorem Rps.two {K : PySem.W.Frag} {w : Wd} {d e : D} {vs : List V} (h : Rps K w [d, e] vs) : ∃ v u, vs = [v, u] ∧ Rp K w d v ∧ Rp K w e u := by
  cases h with
  | cons h r =>
    obtain ⟨u, rfl, h2⟩ := r.one
    exact ⟨_, u, rfl, h, h2⟩
/-- a value, walked -/
theorem pi_seq {tg e : Expr} {ev : Env → Store → R D} (he : PE X e (SemE X.K ev)) : PI X tg e (SemI X.K fun env st => R.bind (ev env st) fun x st => (itemsOf x).map fun ds => (ds, st)) := by
  refine ⟨fun pins s σ H R I h => ?_⟩
  obtain ⟨w, env, ds, st', hH, ok, er, e0, q⟩ := h
  obtain ⟨x, st1, e1, e2⟩ := bind_some e0
  obtain ⟨ds', e3, e4⟩ := map_some e2
  cases e4
  unfold itemsOf at e3
  split at e3
  · cases e3
    exact (pi_list he).run pins s σ H R I ⟨w, env, _, _, hH, ok, er, e1, fun w' v k le es r => by
      cases r with
      | lst h n rr => exact ⟨_, rfl, ⟨_, .inl (.inl h)⟩, q w' _ k le es (jok_list k h n rr)⟩⟩
  · cases e3
    exact (pi_tup he).run pins s σ H R I ⟨w, env, _, _, hH, ok, er, e1, fun w' v k le es r => by
      cases r with
      | tup h rr => exact ⟨_, rfl, ⟨_, h⟩, q w' _ k le es (jok_tup k h rr)⟩⟩
  · cases e3
    exact (pi_list he).run pins s σ H R I ⟨w, env, _, _, hH, ok, er, e1, fun w' v k le es r => by
      cases r with
      | scr h => exact ⟨_, rfl, ⟨_, h.sq⟩, q w' _ k le es (jok_scr k h)⟩⟩
  · cases e3
    exact (pi_str he).run pins s σ H R I ⟨w, env, _, _, hH, ok, er, e1, fun w' v k le es r => by
      cases r with
      | str _ => exact ⟨_, rfl, q w' _ k le es jok_str⟩⟩
  · cases e3
theorem rngOk_of {a : Int} (h : rngOk a = true) : -(2 ^ 62) ≤ a ∧ a < 2 ^ 62 := by
  unfold rngOk at h
  simpa only [Bool.and_eq_true, decide_eq_true_eq] using h
/-- range(n) -/
theorem pi_rng {tg e : Expr} {p pos : Pos} {ev : Env → Store → R (List D)} (hg : Gl X "range") (hm : X.mg "range" = none) (ha : PA X [e] (SemA X.K ev)) (hs : starEach [e] X.env = [(false, eval e X.env)]) {ev' : Env → Store → R (List D)}
    (h' : ∀ env st r, ev' env st = some r → ∃ j st1, ev env st = some ([.int j], st1) ∧ rngOk j = true ∧ r = (rngD 0 j, st1)) : PI X tg (.Call (.Name "range" p) [e] [] pos) (SemI X.K ev') := by
  refine piTo (pi_range1 hg hm ha hs) fun σ H R h => ?_
  obtain ⟨w, env, ds, st', hH, ok, er, e0, q⟩ := h
  obtain ⟨j, st1, e1, hj, e2⟩ := h' _ _ _ e0
  cases e2
  refine ⟨w, env, _, _, hH, ok, er, e1, fun w' vs k le es r => ?_⟩
  obtain ⟨v, rfl, rz⟩ := r.one
  cases rz
  obtain ⟨h1, h2⟩ := rngOk_of hj
  have z := q w' _ k le es (jok_rng (a := 0) (b := j))
  rw [show (j - 0).toNat = j.toNat by rw [Int.sub_zero]] at z
  exact ⟨j, rfl, h1, h2, z⟩
/-- range(a, b) -/
theorem pi_rng2 {tg e e2 : Expr} {p pos : Pos} {ev : Env → Store → R (List D)} (hg : Gl X "range") (hm : X.mg "range" = none) (ha : PA X [e, e2] (SemA X.K ev)) (hs : starEach [e, e2] X.env = [(false, eval e X.env), (false, eval e2 X.env)]) (hs2 : starEach [e2] X.env = [(false, eval e2 X.env)])
    {ev' : Env → Store → R (List D)}
    (h' : ∀ env st r, ev' env st = some r → ∃ i j st1, ev env st = some ([.int i, .int j], st1) ∧ rngOk i = true ∧ rngOk j = true ∧ r = (rngD i j, st1)) : PI X tg (.Call (.Name "range" p) [e, e2] [] pos) (SemI X.K ev') := by
  refine piTo (pi_range2 hg hm ha hs hs2) fun σ H R h => ?_
  obtain ⟨w, env, ds, st', hH, ok, er, e0, q⟩ := h
  obtain ⟨i, j, st1, e1, hi, hj, e2⟩ := h' _ _ _ e0
  cases e2
  refine ⟨w, env, _, _, hH, ok, er, e1, fun w' vs k le es r => ?_⟩
  obtain ⟨v, u, rfl, rz, r2⟩ := r.two
  cases rz
  cases r2
  obtain ⟨h1, h2⟩ := rngOk_of hi
  obtain ⟨h3, h4⟩ := rngOk_of hj
  exact ⟨i, j, rfl, ⟨h1, h2, h3, h4⟩, q w' _ k le es jok_rng⟩
/-- reversed(range(n)) -/
theorem pi_rrng {tg e : Expr} {p pos p2 pos2 : Pos} {ev : Env → Store → R D} (hg : Gl X "range") (hm : X.mg "range" = none) (hg2 : Gl X "reversed") (hm2 : X.mg "reversed" = none) (ha : PE X e (SemE X.K ev)) (hs : starEach [e] X.env = (false, eval e X.env) :: starEach [] X.env) {ev' : Env → Store → R (List D)}
    (h' : ∀ env st r, ev' env st = some r → ∃ j st1, ev env st = some (.int j, st1) ∧ rngOk j = true ∧ r = ((rngD 0 j).reverse, st1)) : PI X tg (.Call (.Name "reversed" p2) [.Call (.Name "range" p) [e] [] pos] [] pos2) (SemI X.K ev') := by
  refine piTo (pi_revR hg2 hm2 (prg_1 hg hm ha hs)) fun σ H R h => ?_
  obtain ⟨w, env, ds, st', hH, ok, er, e0, q⟩ := h
  obtain ⟨j, st1, e1, hj, e2⟩ := h' _ _ _ e0
  cases e2
  refine ⟨w, env, _, _, hH, ok, er, e1, fun w' v k le es r => ?_⟩
  cases r
  obtain ⟨h1, h2⟩ := rngOk_of hj
  exact ⟨j, rfl, by decide, by decide, h1, h2, q w' _ k le es jok_rrng⟩
/-- enumerate(list), enumerate(tuple) -/
def iEnumA (K : PySem.W.Frag) (ta : TA) : TI := fun σ H R => ta σ H fun vs H1 => ∃ a xs, vs = [.ref a] ∧ ((SqL K H1 a xs ∧ R (Ite K a) H1) ∨ (SqT K H1 a xs ∧ R (Itet K a) H1))
theorem pi_enumA {e : Expr} {ta : TA} {p pos tpos : Pos} {elts : List Expr} {kk : Nat} (hg : Gl X "enumerate") (hm : X.mg "enumerate" = none) (ha : PA X [e] ta) (hs : starEach [e] X.env = [(false, eval e X.env)]) :
    PI X (.Tuple elts kk tpos) (.Call (.Name "enumerate" p) [e] [] pos) (iEnumA X.K ta) := by
  refine ⟨fun pins s σ H R I h => ?_⟩
  refine Call_ (ld_blt I hg hm boot_enumerate (PyProof.Rows.callWith_type1 (thn (ha.run pos pins s σ H _ I h) fun us s1 ⟨vs, H1, I1, r1, q1⟩ => ?_) hs rfl))
  obtain ⟨a, xs, ex, q⟩ := q1
  subst ex
  cases r1 with
  | cons r rr =>
    cases rr
    cases r
    have lo : ∀ b ∈ [s1.heap.objs.size + 1, s1.heap.objs.size], s1.heap.objs.size ≤ b := fun b hb => by
      have e' : b = s1.heap.objs.size + 1 ∨ b = s1.heap.objs.size := by simpa using hb
      omega
    rcases q with ⟨hq, q⟩ | ⟨hq, q⟩
    · obtain ⟨its, rv, p', hz⟩ := I1.list hq
      refine call_enumerate_list p'.isList fun h' he hit hsz hk => wpAny_pyIter_enum he ?_
      have I2 : Inv X pins σ H1 { s1 with heap := h' } := I1.kept (t' := s1.toks) hk
      exact ⟨s1.heap.objs.size + 1, [s1.heap.objs.size + 1, s1.heap.objs.size], _, _, H1, rfl, I2, turn_enum a (s1.heap.objs.size + 1) s1.heap.objs.size, ⟨⟨.none, he⟩, hit, Nat.succ_ne_self _⟩, fun b hb => I1.fpOk (lo b hb) (I1.hok.fresh (lo b hb)), q⟩
    · obtain ⟨its, rv, p', hz⟩ := I1.tuple hq
      refine call_enum_tuple (show s1.heap.IsTuple a its.toArray from p') fun h' he hit hsz hk => wpAny_pyIter_enum he ?_
      have I2 : Inv X pins σ H1 { s1 with heap := h' } := I1.kept (t' := s1.toks) hk
      exact ⟨s1.heap.objs.size + 1, [s1.heap.objs.size + 1, s1.heap.objs.size], _, _, H1, rfl, I2, turn_enumT a (s1.heap.objs.size + 1) s1.heap.objs.size, ⟨⟨.none, he⟩, hit⟩, fun b hb => I1.fpOk (lo b hb) (I1.hok.fresh (lo b hb)), q⟩
theorem pi_enumD {e : Expr} {p pos tpos : Pos} {elts : List Expr} {kk : Nat} {ev : Env → Store → R (List D)} (hg : Gl X "enumerate") (hm : X.mg "enumerate" = none) (ha : PA X [e] (SemA X.K ev)) (hs : starEach [e] X.env = [(false, eval e X.env)]) {ev' : Env → Store → R (List D)}
    (h' : ∀ env st r, ev' env st = some r → ∃ ds st1, (ev env st = some ([.lst ds], st1) ∨ ev env st = some ([.tup ds], st1)) ∧ r = (enumD 0 ds, st1)) :
    PI X (.Tuple elts kk tpos) (.Call (.Name "enumerate" p) [e] [] pos) (SemI X.K ev') := by
  refine piTo (pi_enumA hg hm ha hs) fun σ H R h => ?_
  obtain ⟨w, env, ds, st', hH, ok, er, e0, q⟩ := h
  obtain ⟨ds', st1, e1, e2⟩ := h' _ _ _ e0
  cases e2
  rcases e1 with e1 | e1
  · refine ⟨w, env, _, _, hH, ok, er, e1, fun w' vs k le es r => ?_⟩
    obtain ⟨v, rfl, rz⟩ := r.one
    cases rz with
    | lst h n rr => exact ⟨_, _, rfl, .inl ⟨.inl (.inl h), q w' _ k le es (jok_enumL k h n rr)⟩⟩
  · refine ⟨w, env, _, _, hH, ok, er, e1, fun w' vs k le es r => ?_⟩
    obtain ⟨v, rfl, rz⟩ := r.one
    cases rz with
    | tup h rr => exact ⟨_, _, rfl, .inr ⟨h, q w' _ k le es (jok_enumT k h rr)⟩⟩
/-- zip -/
theorem pi_zipD {e e2 : Expr} {p pos tpos : Pos} {elts : List Expr} {kk : Nat} {ev : Env → Store → R (List D)} (hg : Gl X "zip") (hm : X.mg "zip" = none) (ha : PA X [e, e2] (SemA X.K ev)) (hs : starEach [e, e2] X.env = (false, eval e X.env) :: starEach [e2] X.env)
    (hpl : (backTo pos (starEach [e2] X.env)).any (·.1) = false) {ev' : Env → Store → R (List D)}
    (h' : ∀ env st r, ev' env st = some r → ∃ ds es st1, (ev env st = some ([.lst ds, .lst es], st1) ∨ ev env st = some ([.tup ds, .tup es], st1)) ∧ r = (zipD ds es, st1)) :
    PI X (.Tuple elts kk tpos) (.Call (.Name "zip" p) [e, e2] [] pos) (SemI X.K ev') := by
  refine piTo (RZ.pi_zipA hg hm ha hs hpl) fun σ H R h => ?_
  obtain ⟨w, env, ds, st', hH, ok, er, e0, q⟩ := h
  obtain ⟨ds', es', st1, e1, e2⟩ := h' _ _ _ e0
  cases e2
  rcases e1 with e1 | e1
  · refine ⟨w, env, _, _, hH, ok, er, e1, fun w' vs k le es r => ?_⟩
    obtain ⟨v, u, rfl, rz, r2⟩ := r.two
    cases rz with
    | lst h n rr =>
      cases r2 with
      | lst h' n' rr' => exact ⟨_, _, _, _, rfl, .inl ⟨.inl (.inl h), .inl (.inl h'), q w' _ k le es (jok_zipL k h n rr h' n' rr')⟩⟩
  · refine ⟨w, env, _, _, hH, ok, er, e1, fun w' vs k le es r => ?_⟩
    obtain ⟨v, u, rfl, rz, r2⟩ := r.two
    cases rz with
    | tup h rr =>
      cases r2 with
      | tup h' rr' => exact ⟨_, _, _, _, rfl, .inr ⟨h, h', q w' _ k le es (jok_zipT k h rr h' rr')⟩⟩
end
end Kw

set_option Elab.async false
set_option linter.all false
set_option maxRecDepth 100000
set_option maxHeartbeats 1000000
/-! Kw: the defs of the text, their calls; what a body's context must have. -/
namespace Kw
open PySem PySem.Spec PyProof.Rows L2

abbrev noX : CXT := fun _ _ _ _ _ _ => False
abbrev noE : XK := fun _ _ _ => False
structure FnG (P : Program) (w : World) (K : PySem.W.Frag) (mg : Str → Option Value) (base : Heap) (k : Nat) (f : Addr) (fd : FuncData) (ps : List Str) (sp : List V → Hp → VK → Prop) : Prop where
  len : ∀ vs H Q, sp vs H Q → vs.length = ps.length
  run : ∀ (A : Around) (outer : List PySem.Env) (s : Shared) (H : Hp) (args : Args) (us : List Value) (vs : List V) (Q : VK), Room k A → A.guards = some [] → Env0 P w K mg base A outer s H → BindsTo s fd args (ps.zip us) → Vals vs us → sp vs H Q →
    codeAny (model P w) A (.call (.ref f) args) (CR noX outer P w H s Q noE) s

section
variable {X : Cx} {k : Nat} {f : Addr} {fd : FuncData} {ps : List Str} {sp : List V → Hp → VK → Prop} {x : Str} {p pos : Pos} {e : Expr} {es : List Expr} {t : TA}
theorem run_fnG {pins : List (Addr × Obj)} {σ : L2.St} {H : Hp} {s : Shared} {Q : VK} {us : List Value} {vs : List V} (F : FnG X.prog X.w X.K X.mg X.base k f fd ps sp) (hr : Room k X.A) (hgd : X.A.guards = some []) (hb : Binds X.K fd ps [])
    (I : Inv X pins σ H s) (r : Vals vs us) (h : sp vs H Q) : wpAny (model X.prog X.w) X.A (call (.ref f) us) (EP X pins σ Q) X.xe s := by
  have hl : (us ++ []).length = ps.length := by
    rw [List.append_nil, ← r.length]
    exact F.len _ _ _ h
  have q := hb s us I.kIn hl
  rw [List.append_nil] at q
  refine wpAny_call (codeAny_mono (F.run X.A X.stack s H ⟨us, []⟩ us vs Q hr hgd I.env0 q r h) fun r s' hq => ?_)
  cases r with
  | error e => exact False.elim hq
  | ok fl =>
    cases fl with
    | ret u => exact I.after hq
    | next => exact False.elim hq
    | brk => exact False.elim hq
    | cont => exact False.elim hq
theorem pe_callG (F : FnG X.prog X.w X.K X.mg X.base k f fd ps sp) (hr : Room k X.A) (hgd : X.A.guards = some []) (hg : Gl X x) (hm : X.mg x = some (.ref f)) (hk : PySem.W.keepIn X.K (.ref f) = true) (hb : Binds X.K fd ps [])
    (ha : PA X (e :: es) t) (hdb : (x == ("__debug__" : Str)) = false) (he : starEach (e :: es) X.env = (false, eval e X.env) :: starEach es X.env) (hpl : (backTo pos (starEach es X.env)).any (·.1) = false) :
    PE X (.Call (.Name x p) (e :: es) [] pos) (fun σ H Q => t σ H fun vs H1 => sp vs H1 Q) := by
  refine ⟨fun pins s σ H Q I h => ?_⟩
  refine wpAny_Call_Name_kw (ld_glob I hg hm ?_ hdb)
  refine PySem.W.callWith_K (h₀ := X.base) I.ok.mod.kin hk (thn (ha.run pos pins s σ H _ I h) fun us s1 ⟨vs, H1, I1, r, q⟩ => ⟨I1.kIn, ?_⟩) he hpl
  exact run_fnG F hr hgd hb I1 r q
end
/-- a def keeps its promise, by its body -/
theorem fn_ofG {P : Program} {w : World} {K : PySem.W.Frag} {mg : Str → Option Value} {base : Heap} {k : Nat} {f : Addr} {name qual : Str} {params : Arguments} {body : List Stmt} {scope : Scope} {dV kV doc pm cdv ct oc : Value} {an od : Option Addr}
    {osl : Array (Option Value)} {N ps : List Str} {sp : List V → Hp → VK → Prop} (lk : K.lookup f = some ⟨oc, od, .func (PySem.W.fnOf name qual params body scope dV kV doc pm an cdv ct), osl⟩) (hcd : PySem.W.codeIn K cdv qual = true) (S : FnScope N ps scope)
    (len : ∀ vs H Q, sp vs H Q → vs.length = ps.length)
    (hbody : ∀ (A : Around) (outer : List PySem.Env) (s : Shared) (H : Hp) (vs : List V) (Q : VK), Room k (A.deeper (envOfC qual scope s.heap.objs.size f cdv)) → A.guards = some [] → sp vs H Q →
      ∃ t, PSs (cxOf noX P w K mg base N qual scope f cdv A outer s H noE) body t ∧ t { nx := fun _ H' => Q .non H', rt := Q } (start N vs) H) :
    FnG P w K mg base (k + 1) f (PySem.W.fnOf name qual params body scope dV kV doc pm an cdv ct) ps sp := by
  refine ⟨len, fun A outer s H args us vs Q hr hgd e0 hb r hsp => ?_⟩
  have hl := len _ _ _ hsp
  have KX : K.In s.heap := e0.mod.kin.keeps fun b o e => (e0.bs b o e).1
  have lim : s.heap.NoLimit := e0.mod.nolimit.keeps fun b o e => (e0.bs b o e).1
  have hkind : ∀ y ∈ ps.zip us, scope.names.lookup y.1 = some .local ∨ (scope.names.lookup y.1 = some .cell ∧ ((cellsFrom (s.heap.objs.size + 1) scope.names []).lookup y.1).isSome = true) := fun ⟨n, v⟩ hy => by
    rcases S.par n (List.of_mem_zip hy).1 with q | q
    · exact .inl q
    · exact .inr ⟨q, PySem.W.cellsFrom_some _ _ _ (.inl q)⟩
  refine codeAny_call_function hr.depth (KX _ _ lk) rfl S.co S.gen rfl (PySem.W.codeRec_of KX hcd) (hb _ _ _ _ ?_)
  refine wpAny_newFunctionEnv_cells S.kind hkind fun env he s1 x => ?_
  subst he
  refine ⟨lim.keeps x.toInCall.keep, codeAny_func ?_⟩
  obtain ⟨t, ht, hq⟩ := hbody A outer s H vs Q (hr.deeper _) hgd hsp
  have I : Inv (cxOf noX P w K mg base N qual scope f cdv A outer s H noE) [] (start N vs) H s1 := inv_start S hr.hd e0 hl r x
  refine wpAny_mono (ht.run [] s1 (start N vs) H _ I hq) (fun fl s' hs => ?_) fun e s' hs => hs
  have fin : ∀ {σ' : L2.St} {H' : Hp} {v : V} {u : Value}, Inv (cxOf noX P w K mg base N qual scope f cdv A outer s H noE) [] σ' H' s' → RelV v u → Q v H' → CE outer P w H s Q u s' :=
    fun {σ' H' v u} J rv q => ⟨v, H', J.os, J.bare, J.base, J.hok, rv, q⟩
  cases fl with
  | ret u =>
    obtain ⟨v, σ', H', J, rv, q⟩ := hs
    exact fin J rv q
  | next =>
    obtain ⟨σ', H', J, q⟩ := hs
    exact fin (v := V.non) (u := Value.none) J rfl q
  | brk =>
    obtain ⟨_, _, _, q⟩ := hs
    exact False.elim q
  | cont =>
    obtain ⟨_, _, _, q⟩ := hs
    exact False.elim q

/-! ### methods: the library's facts -/
theorem Mt.pa : ∀ m : Mt, PlainAttrs m.ty
  | .append => F.plainAttrs_list
  | .pop0 => F.plainAttrs_list
  | .pop1 => F.plainAttrs_list
  | .extend => F.plainAttrs_list
  | .insert => F.plainAttrs_list
  | .join => F.plainAttrs_str
  | .split => F.plainAttrs_str
  | .index => F.plainAttrs_list
  | .get2 => F.plainAttrs_dict
theorem Mt.slot : ∀ m : Mt, Slot m.ty m.name m.id
  | .append => F.slot_list_append
  | .pop0 => F.slot_list_pop
  | .pop1 => F.slot_list_pop
  | .extend => F.slot_list_extend
  | .insert => F.slot_list_insert
  | .join => F.slot_str_join
  | .split => F.slot_str_split
  | .index => F.slot_list_index
  | .get2 => F.slot_dict_get
theorem Mt.hty : ∀ m : Mt, typeOf (.builtin m.id) = pure (.type "method_descriptor")
  | .append => F.type_list_append
  | .pop0 => F.type_list_pop
  | .pop1 => F.type_list_pop
  | .extend => F.type_list_extend
  | .insert => F.type_list_insert
  | .join => F.type_str_join
  | .split => F.type_str_split
  | .index => F.type_list_index
  | .get2 => F.type_dict_get

/-! ### .get of a written table -/
structure KTab (K : PySem.W.Frag) (w : World) (a : Addr) (t : List (Str × Int)) : Prop where
  ex : ∃ es n, KDict K w a es n ∧ ∀ s : Str, (t.lookup s = none → findBy Value.isStrOf es s = none) ∧ ∀ i, t.lookup s = some i → ∃ tk, findBy Value.isStrOf es s = some (.int i tk)
def OpKg (K : PySem.W.Frag) (a : Addr) (t : List (Str × Int)) : V → List V → Hp → VK → Prop := fun x xs H Q => ∃ w z d v, w.H = H ∧ Ok K w ∧ x = .ref a ∧ xs = [.str z, v] ∧ Rp K w d v ∧ Post K w (((t.lookup z).map D.int).getD d) w.st Q
theorem kg_ok {X : Cx} {a : Addr} {t : List (Str × Int)} (T : KTab X.K X.w a t) : MtR X "dict.get" (OpKg X.K a t) := by
  rintro pins s σ H x xs v us Q I rx rv ⟨w, z, d, y, rfl, ok, rfl, rfl, r, post⟩
  obtain ⟨es, n, D, h⟩ := T.ex
  cases rx
  cases rv with
  | cons r1 rr =>
    cases rr with
    | @cons _ u _ _ r2 rr =>
      cases rr
      obtain ⟨tz, rfl⟩ := r1
      have hm := PySem.W.mapOf_K (prog := X.prog) (w := X.w) I.kIn D.at_ D.lit
      refine call_meetsIn PySem.F.slot_dict_get hm.typeIs PySem.F.entry_dict_get (PySem.F.args_dict_get_3 _ _ _) (meets_dict_get_default (strKind X.prog X.w) a (strKind_is X.prog X.w z tz) D.low u) ⟨_, hm, ?_⟩
      cases q : t.lookup z with
      | none =>
        rw [(h z).1 q]
        rw [q] at post
        exact ⟨y, w.H, I.tok _, r2, post.same ok r⟩
      | some i =>
        obtain ⟨tk, e⟩ := (h z).2 i q
        rw [e]
        rw [q] at post
        exact ⟨.int i, w.H, I.tok _, ⟨tk, rfl⟩, post.same ok (.int i)⟩
end Kw

set_option Elab.async false
set_option linter.all false
set_option maxRecDepth 100000
set_option maxHeartbeats 1000000
/-! Kw: targets, list comprehensions. -/
namespace Kw
open PySem PySem.Spec PyProof.Rows L2

/-! ### a list that is being made -/
section
variable {K : PySem.W.Frag} {w w1 : Wd} {D : Addr} {o : HO}
def Wd.hide (w : Wd) (D : Addr) (o : HO) : Wd := ⟨w.io, w.st, upd w.H D o, fun a => a = D ∨ w.hid a⟩
theorem Ok.le_hide (k : Ok K w) (h : w.H D = none) : Le w (w.hide D o) where
  fr := fun a u e _ => by
    show upd w.H D _ a = some u
    rw [upd_ne (ne_of_none e h)]
    exact e
  nl := fun a z => by
    rcases z with (z | z) | z
    · exact .inr (by rw [z]; exact h)
    · exact .inl (.inl z)
    · exact .inl (.inr z)
  io := fun _ _ => rfl
  len := Nat.le_refl _
  hd := fun a z => ⟨.inr z, by
    obtain ⟨xs, e, ho'⟩ := k.hl a z
    show upd w.H D _ a = w.H a
    rw [upd_ne (ne_of_none e h)]⟩
theorem Ok.hide (k : Ok K w) (h : w.H D = none) (ho : isLD o) : Ok K (w.hide D o) where
  inj := k.inj
  ob := fun l mo e => (k.ob l mo e).mono k (k.le_hide h) (List.getElem?_eq_some_iff.mp e).1 fun nd => by
    show upd w.H D _ (w.io l) = w.H (w.io l)
    refine upd_ne fun z => ?_
    exact k.fresh h (.inr ⟨l, mo, e, nd, z⟩)
  hl := fun a z => by
    rcases z with z | z
    · exact ⟨o, by rw [z]; exact upd_same, ho⟩
    · obtain ⟨xs, e, ho'⟩ := k.hl a z
      refine ⟨xs, ?_, ho'⟩
      show upd w.H D _ a = _
      rw [upd_ne (ne_of_none e h)]
      exact e
  hn := fun a l mo z e nd q => by
    rcases z with z | z
    · subst z
      exact k.fresh h (.inr ⟨l, mo, e, nd, q⟩)
    · exact k.hn a l mo z e nd q
/-- it grows -/
def Wd.app (w : Wd) (D : Addr) (o : HO) : Wd := ⟨w.io, w.st, upd w.H D o, w.hid⟩
mutual
theorem Rp.app (k : Ok K w) (h : w.hid D) : ∀ {d : Kw.D} {v : V}, Rp K w d v → Rp K (w.app D o) d v
  | _, _, .non => .non
  | _, _, .bl b => .bl b
  | _, _, .int i => .int i
  | _, _, .str s => .str s
  | _, _, .tup (a := a) q r => .tup (by
      obtain ⟨ys, e, hy⟩ := k.hl D h
      rcases q with (q | ⟨o', q⟩) | q
      · refine .inl (.inl ?_)
        show upd w.H D _ a = _
        rw [upd_ne (fun z => by rw [z, e] at q; cases q; exact hy)]
        exact q
      · refine .inl (.inr ⟨o', ?_⟩)
        show upd w.H D _ a = _
        rw [upd_ne (fun z => by rw [z, e] at q; cases q; exact hy)]
        exact q
      · exact .inr q) (Rps.app k h r)
  | _, _, .lst (a := a) q n r => .lst (by
      show upd w.H D _ a = _
      rw [upd_ne (fun z => n (.inl (by rw [z]; exact h)))]
      exact q) n (Rps.app k h r)
  | _, _, .scr (a := a) q => .scr (by
      obtain ⟨ys, e, hy⟩ := k.hl D h
      rcases q with ⟨o', q⟩ | q
      · refine .inl ⟨o', ?_⟩
        show upd w.H D _ a = _
        rw [upd_ne (fun z => by rw [z, e] at q; cases q; exact hy)]
        exact q
      · exact .inr q)
  | _, _, .ref hl => .ref (w := w.app D o) hl
theorem Rps.app (k : Ok K w) (h : w.hid D) : ∀ {ds : List Kw.D} {vs : List V}, Rps K w ds vs → Rps K (w.app D o) ds vs
  | _, _, .nil => .nil
  | _, _, .cons q r => .cons (Rp.app k h q) (Rps.app k h r)
end
theorem Ok.app (k : Ok K w) (h : w.hid D) (ho : isLD o) : Ok K (w.app D o) where
  inj := k.inj
  ob := fun l mo e => by
    have q := k.ob l mo e
    have hH : mo ≠ .dead → (w.app D o).H (w.io l) = w.H (w.io l) := fun nd => upd_ne (k.hn D l mo h e nd)
    cases mo with
    | dead => trivial
    | lst ds =>
      obtain ⟨u, vs, e, r⟩ := q
      exact ⟨u, vs, (hH (fun z => by cases z)).trans e, r.app k h⟩
    | dK kvs =>
      obtain ⟨u, vs, e, r1, r2⟩ := q
      exact ⟨u, vs, (hH (fun z => by cases z)).trans e, r1, r2.app k h⟩
  hl := fun a z => by
    by_cases q : a = D
    · exact ⟨o, by rw [q]; exact upd_same, ho⟩
    · obtain ⟨ys, e, hy⟩ := k.hl a z
      exact ⟨ys, by show upd w.H D _ a = _; rw [upd_ne q]; exact e, hy⟩
  hn := k.hn
theorem Le.app (k1 : Ok K w1) (h1 : w1.H D = none) (le : Le w1 w) : Le w1 (w.app D o) where
  fr := fun a u e n => by
    show upd w.H D _ a = _
    rw [upd_ne (ne_of_none e h1)]
    exact le.fr a u e n
  nl := le.nl
  io := le.io
  len := le.len
  hd := fun a z => ⟨(le.hd a z).1, by
    obtain ⟨ys, e, hy⟩ := k1.hl a z
    show upd w.H D _ a = _
    rw [upd_ne (ne_of_none e h1)]
    exact (le.hd a z).2⟩
/-- it is made: from now on a value may be it -/
def Wd.shown (w w1 : Wd) : Wd := ⟨w.io, w.st, w.H, w1.hid⟩
theorem shown_live (le : Le w1 w) {a : Addr} (h : (w.shown w1).live a) : w.live a := h.imp (fun z => (le.hd a z).1) id
mutual
theorem Rp.shown (le : Le w1 w) : ∀ {d : Kw.D} {v : V}, Rp K w d v → Rp K (w.shown w1) d v
  | _, _, .non => .non
  | _, _, .bl b => .bl b
  | _, _, .int i => .int i
  | _, _, .str s => .str s
  | _, _, .tup q r => .tup q (Rps.shown le r)
  | _, _, .lst q n r => .lst q (fun z => n (shown_live le z)) (Rps.shown le r)
  | _, _, .scr q => .scr q
  | _, _, .ref hl => .ref (w := w.shown w1) hl
theorem Rps.shown (le : Le w1 w) : ∀ {ds : List Kw.D} {vs : List V}, Rps K w ds vs → Rps K (w.shown w1) ds vs
  | _, _, .nil => .nil
  | _, _, .cons q r => .cons (Rp.shown le q) (Rps.shown le r)
end
theorem Ok.shown (k : Ok K w) (le : Le w1 w) : Ok K (w.shown w1) where
  inj := k.inj
  ob := fun l mo e => by
    have q := k.ob l mo e
    cases mo with
    | dead => trivial
    | lst ds =>
      obtain ⟨u, vs, e, r⟩ := q
      exact ⟨u, vs, e, r.shown le⟩
    | dK kvs =>
      obtain ⟨u, vs, e, r1, r2⟩ := q
      exact ⟨u, vs, e, r1, r2.shown le⟩
  hl := fun a z => k.hl a (le.hd a z).1
  hn := fun a l mo z e nd => k.hn a l mo (le.hd a z).1 e nd
theorem Le.shown (le : Le w1 w) : Le w1 (w.shown w1) where
  fr := le.fr
  nl := fun a z => le.nl a (shown_live le z)
  io := le.io
  len := le.len
  hd := fun a z => ⟨z, (le.hd a z).2⟩
theorem shown_not (k1 : Ok K w1) (k : Ok K w) (h1 : w1.H D = none) (h : w.hid D) : ¬ (w.shown w1).live D := fun z => by
  rcases z with z | ⟨l, mo, e, nd, q⟩
  · obtain ⟨xs, e, hy⟩ := k1.hl D z
    rw [h1] at e
    cases e
  · exact k.hn D l mo h e nd q
/-- .. as an object of the store -/
def Wd.owned (w w1 : Wd) (D : Addr) (mo : MO) : Wd := ⟨fun l => if l = w.st.length then D else w.io l, w.st ++ [mo], w.H, w1.hid⟩
theorem owned_io {mo : MO} {l : Nat} (h : l < w.st.length) : (w.owned w1 D mo).io l = w.io l := if_neg (Nat.ne_of_lt h)
theorem owned_at {mo : MO} : (w.owned w1 D mo).io w.st.length = D := if_pos rfl
theorem owned_cs {mo m : MO} {l : Nat} (e : (w.owned w1 D mo).st[l]? = some m) : (l < w.st.length ∧ w.st[l]? = some m) ∨ (l = w.st.length ∧ m = mo) := by
  have e' : (w.st ++ [mo])[l]? = some m := e
  by_cases hl : l < w.st.length
  · rw [List.getElem?_append_left hl] at e'
    exact .inl ⟨hl, e'⟩
  · have := (List.getElem?_eq_some_iff.mp e').1
    simp at this
    have hl' : l = w.st.length := by omega
    subst hl'
    simp at e'
    exact .inr ⟨rfl, e'.symm⟩
theorem owned_live {mo : MO} (le : Le w1 w) (h : w.hid D) {a : Addr} (z : (w.owned w1 D mo).live a) : w.live a := by
  rcases z with z | ⟨l, m, e, nd, q⟩
  · exact .inl (le.hd a z).1
  · rcases owned_cs e with ⟨h1, g⟩ | ⟨h1, g⟩
    · rw [owned_io h1] at q
      exact .inr ⟨l, m, g, nd, q⟩
    · subst h1
      rw [owned_at] at q
      subst q
      exact .inl h
mutual
theorem Rp.owned {mo : MO} (le : Le w1 w) (h : w.hid D) : ∀ {d : Kw.D} {v : V}, Rp K w d v → Rp K (w.owned w1 D mo) d v
  | _, _, .non => .non
  | _, _, .bl b => .bl b
  | _, _, .int i => .int i
  | _, _, .str s => .str s
  | _, _, .tup q r => .tup q (Rps.owned le h r)
  | _, _, .lst q n r => .lst q (fun z => n (owned_live le h z)) (Rps.owned le h r)
  | _, _, .scr q => .scr q
  | _, _, .ref hl => by
    rw [← owned_io (w1 := w1) (D := D) (mo := mo) hl]
    refine .ref (w := w.owned w1 D mo) ?_
    show _ < (w.st ++ [mo]).length
    rw [List.length_append]
    exact Nat.lt_of_lt_of_le hl (Nat.le_add_right _ _)
theorem Rps.owned {mo : MO} (le : Le w1 w) (h : w.hid D) : ∀ {ds : List Kw.D} {vs : List V}, Rps K w ds vs → Rps K (w.owned w1 D mo) ds vs
  | _, _, .nil => .nil
  | _, _, .cons q r => .cons (Rp.owned le h q) (Rps.owned le h r)
end
theorem Ok.owned {ds : List Kw.D} {vs : List V} (k1 : Ok K w1) (h1 : w1.H D = none) (k : Ok K w) (le : Le w1 w) (h : w.hid D) (e : w.H D = some (.lst vs)) (r : Rps K w ds vs) (u : Kw.D.unds w.st.length ds = true) : Ok K (w.owned w1 D (.lst ds)) where
  inj := fun i j mi mj e1 e2 n1 n2 q => by
    rcases owned_cs e1 with ⟨h1, g1⟩ | ⟨h1, g1⟩ <;> rcases owned_cs e2 with ⟨h2, g2⟩ | ⟨h2, g2⟩
    · rw [owned_io h1, owned_io h2] at q
      exact k.inj i j mi mj g1 g2 n1 n2 q
    · subst h2
      rw [owned_io h1, owned_at] at q
      exact absurd q (k.hn D i mi h g1 n1)
    · subst h1
      rw [owned_io h2, owned_at] at q
      exact absurd q.symm (k.hn D j mj h g2 n2)
    · rw [h1, h2]
  ob := fun l mo e2 => by
    rcases owned_cs e2 with ⟨h2, g2⟩ | ⟨h2, g2⟩
    · have q := k.ob l mo g2
      cases mo with
      | dead => trivial
      | lst ds =>
        obtain ⟨u, vs, e, r⟩ := q
        exact ⟨u, vs, by rw [owned_io h2]; exact e, r.owned le h⟩
      | dK kvs =>
        obtain ⟨u, vs, e, r1, r2⟩ := q
        exact ⟨u, vs, by rw [owned_io h2]; exact e, r1, r2.owned le h⟩
    · subst h2 g2
      exact ⟨u, vs, by rw [owned_at]; exact e, r.owned le h⟩
  hl := fun a z => k.hl a (le.hd a z).1
  hn := fun a l mo z e2 nd => by
    rcases owned_cs e2 with ⟨h2, g2⟩ | ⟨h2, g2⟩
    · rw [owned_io h2]
      exact k.hn a l mo (le.hd a z).1 g2 nd
    · subst h2
      rw [owned_at]
      rintro rfl
      obtain ⟨xs, e, hy⟩ := k1.hl _ z
      rw [h1] at e
      cases e
theorem Ok.ownedK {ds : List (L2.Key × Kw.D)} {vs : List (L2.Key × V)} (k1 : Ok K w1) (h1 : w1.H D = none) (k : Ok K w) (le : Le w1 w) (h : w.hid D) (e : w.H D = some (.dK vs)) (r : RpK K w ds vs) (u : Kw.D.unds w.st.length (ds.map (·.2)) = true) : Ok K (w.owned w1 D (.dK ds)) where
  inj := fun i j mi mj e1 e2 n1 n2 q => by
    rcases owned_cs e1 with ⟨h1, g1⟩ | ⟨h1, g1⟩ <;> rcases owned_cs e2 with ⟨h2, g2⟩ | ⟨h2, g2⟩
    · rw [owned_io h1, owned_io h2] at q
      exact k.inj i j mi mj g1 g2 n1 n2 q
    · subst h2
      rw [owned_io h1, owned_at] at q
      exact absurd q (k.hn D i mi h g1 n1)
    · subst h1
      rw [owned_io h2, owned_at] at q
      exact absurd q.symm (k.hn D j mj h g2 n2)
    · rw [h1, h2]
  ob := fun l mo e2 => by
    rcases owned_cs e2 with ⟨h2, g2⟩ | ⟨h2, g2⟩
    · have q := k.ob l mo g2
      cases mo with
      | dead => trivial
      | lst ds =>
        obtain ⟨u, vs, e, r⟩ := q
        exact ⟨u, vs, by rw [owned_io h2]; exact e, r.owned le h⟩
      | dK kvs =>
        obtain ⟨u, vs, e, r1, r2⟩ := q
        exact ⟨u, vs, by rw [owned_io h2]; exact e, r1, r2.owned le h⟩
    · subst h2 g2
      exact ⟨u, vs, by rw [owned_at]; exact e, r.1, r.2.owned le h⟩
  hl := fun a z => k.hl a (le.hd a z).1
  hn := fun a l mo z e2 nd => by
    rcases owned_cs e2 with ⟨h2, g2⟩ | ⟨h2, g2⟩
    · rw [owned_io h2]
      exact k.hn a l mo (le.hd a z).1 g2 nd
    · subst h2
      rw [owned_at]
      rintro rfl
      obtain ⟨xs, e, hy⟩ := k1.hl _ z
      rw [h1] at e
      cases e
theorem Le.owned {mo : MO} (le : Le w1 w) (h : w.hid D) : Le w1 (w.owned w1 D mo) where
  fr := le.fr
  nl := fun a z => le.nl a (owned_live le h z)
  io := fun l hl => (owned_io (Nat.lt_of_lt_of_le hl le.len)).trans (le.io l hl)
  len := by
    show _ ≤ (w.st ++ [mo]).length
    rw [List.length_append]
    exact Nat.le_trans le.len (Nat.le_add_right _ _)
  hd := fun a z => ⟨z, (le.hd a z).2⟩
end

/-! ### targets -/
def gKs (K : PySem.W.Frag) : List Nat → TGs
  | [] => gNil
  | i :: is => gCons (gName i) (gKs K is)
def gK (K : PySem.W.Frag) : G → TG
  | .nm i => gName i
  | .tup is => gTup K is.length (gKs K is)
def G.slots : G → List Nat
  | .nm i => [i]
  | .tup is => is
theorem wipe_far {i : Nat} {x : Option V} : ∀ {vs : List Nat} {σ : L2.St}, i ∉ vs → L2.wipe (σ.set i x) vs = (L2.wipe σ vs).set i x
  | [], _, _ => rfl
  | v :: vs, σ, h => by
    simp only [List.mem_cons, not_or] at h
    unfold L2.wipe
    rw [wipe_far h.2, List.set_comm _ _ h.1]
theorem wipe_in {i : Nat} {x : Option V} : ∀ {vs : List Nat} {σ : L2.St}, i ∈ vs → L2.wipe (σ.set i x) vs = L2.wipe σ vs
  | v :: vs, σ, h => by
    unfold L2.wipe
    by_cases h2 : i ∈ vs
    · rw [wipe_in h2]
    · have e : i = v := by
        rcases List.mem_cons.mp h with z | z
        · exact z
        · exact absurd z h2
      subst e
      rw [wipe_far h2, List.set_set]
theorem gKs_ok {K : PySem.W.Frag} {w : Wd} {Q : L2.St → Hp → Prop} {vs : List Nat} : ∀ {is : List Nat} {ds : List D} {xs : List V} {env env' : Env} {σ : L2.St}, asgNs is ds env = some env' → Rps K w ds xs → EnvR K w env σ →
    (∀ σ', EnvR K w env' σ' → ((∀ i ∈ is, i ∈ vs) → L2.wipe σ' vs = L2.wipe σ vs) → Q σ' w.H) → gKs K is xs σ w.H Q ∧ xs.length = is.length
  | [], [], _, env, env', σ, e, r, er, q => by
    cases r
    cases e
    exact ⟨⟨rfl, q σ er fun _ => rfl⟩, rfl⟩
  | i :: is, d :: ds, _, env, env', σ, e, r, er, q => by
    cases r with
    | @cons _ v _ xs h r =>
      unfold asgNs at e
      split at e
      · rename_i hi
        have z := gKs_ok (vs := vs) (σ := σ.set i (some v)) (Q := Q) e r (er.set i h) fun σ' er' hw => q σ' er' fun hs => by
          rw [hw fun j hj => hs j (List.mem_cons_of_mem _ hj), wipe_in (hs i List.mem_cons_self)]
        exact ⟨⟨v, xs, rfl, z.1⟩, by rw [List.length_cons, List.length_cons, z.2]⟩
      · cases e
  | [], _ :: _, _, _, _, _, e, _, _, _ => by simp [asgNs] at e
  | _ :: _, [], _, _, _, _, e, _, _, _ => by simp [asgNs] at e
theorem gK_ok {K : PySem.W.Frag} {w : Wd} {Q : L2.St → Hp → Prop} {vs : List Nat} {g : G} {d : D} {v : V} {env env' : Env} {σ : L2.St} (e : asgG g d env = some env') (r : Rp K w d v) (er : EnvR K w env σ)
    (q : ∀ σ', EnvR K w env' σ' → ((∀ i ∈ g.slots, i ∈ vs) → L2.wipe σ' vs = L2.wipe σ vs) → Q σ' w.H) : gK K g v σ w.H Q := by
  unfold asgG at e
  split at e
  · split at e
    · cases e
      exact q _ (er.set _ r) fun hs => wipe_in (hs _ (by simp [G.slots]))
    · cases e
  · cases r with
    | tup h rr =>
      have z := gKs_ok (vs := vs) e rr er q
      exact ⟨_, _, rfl, h, z.2, z.1⟩
  · cases e

/-! ### comprehensions -/
def lcF (evc : Env → Store → R Bool) (eve : Env → Store → R D) (g : G) (own : List Nat) (env : Env) : D → Store → R (Option D) := fun x st => match asgG g x (wipeD env own) with
  | none => none
  | some env1 => R.bind (evc env1 st) fun b st => if b then R.bind (eve env1 st) fun y st => some (some y, st) else some (none, st)
def lcE (mu : Bool) (evi : Env → Store → R (List D)) (evc : Env → Store → R Bool) (eve : Env → Store → R D) (g : G) (own : List Nat) (env : Env) (st : Store) : R D := R.bind (evi env st) fun ds st => R.bind (evLc (lcF evc eve g own env) ds st) fun ys st =>
  if ys.length ≤ LIM then (if mu then (if D.unds st.length ys then some (.ref st.length, st ++ [.lst ys]) else none) else some (.lst ys, st)) else none
theorem lc_ok {K : PySem.W.Frag} {mu : Bool} {evi : Env → Store → R (List D)} {evc : Env → Store → R Bool} {eve : Env → Store → R D} {g : G} {own : List Nat} (hg : ∀ i ∈ g.slots, i ∈ own) (σ : L2.St) (H : Hp) (Q : VK) (h : SemE K (lcE mu evi evc eve g own) σ H Q) :
    tLc (SemI K evi) (gK K g) (SemT K evc) (SemE K eve) own σ H Q := by
  obtain ⟨w, env, d, st', hH, ok, er, e0, post⟩ := h
  obtain ⟨ds, st1, e1, e2⟩ := bind_some e0
  obtain ⟨ys, st2, e3, e4⟩ := bind_some e2
  refine ⟨w, env, ds, st1, hH, ok, er, e1, fun w1 J k1 le1 es1 jok A hA => ?_⟩
  have er1 := er.mono ok le1
  have hys : ys.length ≤ LIM := by
    split at e4
    · assumption
    · cases e4
  refine ⟨fun i m H => m = ds.length - i ∧ i ≤ ds.length ∧ ∃ w' acc done rest, w'.H = H ∧ Ok K w' ∧ Le w1 w' ∧ w'.hid A ∧ H A = some (.lst acc) ∧ Rps K w' done acc ∧ evLc (lcF evc eve g own env) (ds.drop i) w'.st = some (rest, st2) ∧ done ++ rest = ys, ⟨_, rfl, Nat.zero_le _, w1.hide A (.lst []), [], [], ys, rfl, k1.hide hA trivial, k1.le_hide hA, .inl rfl, upd_same, .nil, by rw [List.drop_zero]; show evLc _ ds w1.st = _; rw [es1]; exact e3, rfl⟩, ?_⟩
  rintro i m H' ⟨rfl, hi, w', acc, done, rest, rfl, k', le', hid, hD, rr, e5, e6⟩
  by_cases hlt : i < ds.length
  · rw [List.drop_eq_getElem_cons hlt] at e5
    obtain ⟨o, st3, e7, e8⟩ := bind_some e5
    obtain ⟨rest', st4, e9, e10⟩ := bind_some e8
    cases e10
    have hget : ds[i]? = some ds[i] := by simp [hlt]
    obtain ⟨jgo, jy⟩ := (jok w' k' le' i).2 _ hget
    refine .inr ⟨jgo, fun H => ∃ w' acc done rest, w'.H = H ∧ Ok K w' ∧ Le w1 w' ∧ w'.hid A ∧ H A = some (.lst acc) ∧ Rps K w' done acc ∧ evLc (lcF evc eve g own env) (ds.drop (i + 1)) w'.st = some (rest, st2) ∧ done ++ rest = ys, fun H' p' => ⟨ds.length - (i + 1), by omega, rfl, hlt, p'⟩, fun x H' y => ?_⟩
    obtain ⟨w2, k2, le2, es2, rfl, r2⟩ := jy x H' y
    unfold lcF at e7
    split at e7
    · cases e7
    · rename_i env1 ea
      obtain ⟨b, st5, e11, e12⟩ := bind_some e7
      refine gK_ok (vs := own) ea r2 ((er1.mono k1 (le'.trans le2)).wipe own) fun σ' er' hw => ⟨hw hg |>.trans ?_, ?_⟩
      · have wip : ∀ (vs us : List Nat) (σ : L2.St), (∀ i ∈ us, i ∈ vs) → L2.wipe (L2.wipe σ us) vs = L2.wipe σ vs := by
          intro vs us
          induction us with
          | nil => intro σ _; rfl
          | cons u us ih =>
            intro σ hs
            show L2.wipe ((L2.wipe σ us).set u none) vs = _
            rw [wipe_in (hs u List.mem_cons_self)]
            exact ih σ fun j hj => hs j (List.mem_cons_of_mem _ hj)
        exact wip own own σ fun _ h => h
      · refine ⟨w2, env1, b, st5, rfl, k2, er', by rw [es2]; exact e11, fun w3 k3 le3 es3 => ?_⟩
        have hid3 : w3.hid A ∧ w3.H A = some (.lst acc) := by
          have z := (le2.trans le3).hd A hid
          exact ⟨z.1, z.2.trans hD⟩
        have rr3 := (rr.mono k' (le2.trans le3))
        have le13 := le'.trans (le2.trans le3)
        cases b with
        | false =>
          cases e12
          show (if false = true then _ else _)
          rw [if_neg Bool.false_ne_true]
          exact ⟨w3, acc, done, rest', rfl, k3, le13, hid3.1, hid3.2, rr3, by rw [es3]; exact e9, e6⟩
        | true =>
          rw [if_pos rfl] at e12
          obtain ⟨y, st6, e13, e14⟩ := bind_some e12
          cases e14
          show (if true = true then _ else _)
          rw [if_pos rfl]
          refine ⟨w3, env1, y, st3, rfl, k3, er'.mono k2 le3, by rw [es3]; exact e13, fun w4 v k4 le4 es4 r4 => ?_⟩
          have hid4 : w4.hid A ∧ w4.H A = some (.lst acc) := by
            have z := le4.hd A hid3.1
            exact ⟨z.1, z.2.trans hid3.2⟩
          have hl : acc.length = done.length := rr.length
          have hl2 : done.length + (rest'.length + 1) = ys.length := by
            rw [← e6]
            simp
          refine ⟨acc, hid4.2, lim_lt (by rw [hl]; omega), w4.app A (.lst (acc ++ [v])), acc ++ [v], done ++ [y], rest', rfl, k4.app hid4.1 trivial, le13.trans le4 |>.app k1 hA, hid4.1, upd_same, (rr3.mono k3 le4 |>.append (.cons r4 .nil)).app k4 hid4.1, by show evLc _ _ w4.st = _; rw [es4]; exact e9, by rw [← e6]; simp⟩
  · have e : i = ds.length := by omega
    subst e
    rw [List.drop_length] at e5
    cases e5
    rw [List.append_nil] at e6
    subst e6
    refine .inl ⟨(jok w' k' le' ds.length).1 (Nat.le_refl _), ?_⟩
    rw [if_pos hys] at e4
    cases mu with
    | false =>
      rw [if_neg Bool.false_ne_true] at e4
      cases e4
      exact post (w'.shown w1) (.ref A) (k'.shown le') (le1.trans le'.shown) rfl (.lst (w := w'.shown w1) hD (shown_not k1 k' hA hid) (rr.shown le'))
    | true =>
      rw [if_pos rfl] at e4
      split at e4
      · rename_i hu
        cases e4
        have r0 : Rp K (w'.owned w1 A (.lst done)) (.ref w'.st.length) (.ref ((w'.owned w1 A (.lst done)).io w'.st.length)) := .ref (w := w'.owned w1 A (.lst done)) (by show _ < (w'.st ++ [_]).length; simp)
        rw [owned_at] at r0
        exact post (w'.owned w1 A (.lst done)) (.ref A) (Ok.owned k1 hA k' le' hid hD rr hu) (le1.trans (le'.owned hid)) rfl r0
      · cases e4
end Kw

set_option Elab.async false
set_option linter.all false
set_option maxRecDepth 100000
set_option maxHeartbeats 1000000
/-! Kw: the text against the terms; what a context must have. -/
namespace Kw
open PySem PySem.Spec PyProof.Rows L2

mutual
def D.eqb : D → D → Bool
  | .non, .non => true
  | .bl a, .bl b => a == b
  | .int a, .int b => a == b
  | .str a, .str b => decide (a = b)
  | .tup a, .tup b => D.eqbs a b
  | _, _ => false
def D.eqbs : List D → List D → Bool
  | [], [] => true
  | a :: as, b :: bs => D.eqb a b && D.eqbs as bs
  | _, _ => false
end
mutual
theorem D.eqb_eq : ∀ {a b : D}, D.eqb a b = true → a = b
  | .non, .non, _ => rfl
  | .bl a, .bl b, h => by rw [D.eqb] at h; rw [beq_iff_eq.mp h]
  | .int a, .int b, h => by rw [D.eqb] at h; rw [beq_iff_eq.mp h]
  | .str a, .str b, h => by rw [D.eqb] at h; rw [of_decide_eq_true h]
  | .tup a, .tup b, h => by rw [D.eqb] at h; rw [D.eqbs_eq h]
theorem D.eqbs_eq : ∀ {a b : List D}, D.eqbs a b = true → a = b
  | [], [], _ => rfl
  | a :: as, b :: bs, h => by
    rw [D.eqbs, Bool.and_eq_true] at h
    rw [D.eqb_eq h.1, D.eqbs_eq h.2]
end

structure Ctx where
  N : List Str
  fs : List Str
  con : List (Str × D)
  dic : List (Str × List (Str × Int))
def Ctx.isCon (C : Ctx) (x : Str) (d : D) : Bool := C.con.any fun p => decide (p.1 = x) && D.eqb p.2 d
def Ctx.isDic (C : Ctx) (x : Str) (t : List (Str × Int)) : Bool := C.dic.any fun p => decide (p.1 = x) && decide (p.2 = t)
def visB (sc : Scope) (x : Str) : Bool := match sc.names.lookup x with
  | some .local => true
  | some .cell => true
  | some .free => true
  | _ => false
def glB (sc : Scope) (x : Str) : Bool := decide (sc.names.lookup x = some .globalImplicit)
theorem vis_of {sc : Scope} {x : Str} (h : visB sc x = true) : Vis sc x := by
  unfold visB at h
  split at h
  · exact .inl (by assumption)
  · exact .inr (.inl (by assumption))
  · exact .inr (.inr (by assumption))
  · cases h
def isBlt (x : Str) : Bool := ["len", "list", "tuple", "sorted", "sum", "all", "any", "max", "min", "repr", "int", "dict", "isinstance", "range", "reversed", "enumerate", "zip", "str", "bool"].any fun y => decide ((y : Str) = x)
/-- a name of the frame that is stored to -/
def ckN (C : Ctx) (fn : Str → Bool) (sc : Scope) (i : Nat) (x : Str) : Bool := decide (C.N[i]? = some x) && (decide (sc.names.lookup x = some .local) || (decide (sc.names.lookup x = some .cell) && fn x))
def ckNs (C : Ctx) (fn : Str → Bool) (sc : Scope) : List Nat → List Expr → Bool
  | [], [] => true
  | i :: is, e :: es => (match e with
    | .Name x _ => ckN C fn sc i x
    | _ => false) && ckNs C fn sc is es
  | _, _ => false
def ckG (C : Ctx) (fn : Str → Bool) (sc : Scope) (g : G) (e : Expr) : Bool :=
  match g, e with
  | .nm i, .Name x _ => ckN C fn sc i x
  | .tup is, .Tuple es _ _ => ckNs C fn sc is es
  | _, _ => false
def ckC : D → Const → Bool
  | .non, .none => true
  | .bl b, .bool c => b == c
  | .int i, .int j => i == j
  | .str s, .str t => decide (s = t)
  | _, _ => false
mutual
/-- a test of this shape is walked -/
def E.tOk : E → Bool
  | .ite _ _ _ => false
  | .and es => E.tOks es
  | .or es => E.tOks es
  | .not a => a.tOk
  | _ => true
def E.tOks : List E → Bool
  | [] => true
  | e :: es => e.tOk && E.tOks es
end
def isTup : Expr → Bool
  | .Tuple _ _ _ => true
  | _ => false
def clsOk (T : String) : Bool := T == "str" || T == "tuple" || T == "int" || T == "bool" || T == "list"
def ownP (C : Ctx) (own : List Nat) : List (Str × Nat) := own.filterMap fun i => (C.N[i]?).map fun x => (x, i)
def noFn : Str → Bool := fun _ => true
mutual
def ckE (C : Ctx) (sc : Scope) : E → Expr → Bool
  | .var i, e => match e with
    | .Name x _ => decide (C.N[i]? = some x) && visB sc x && !(x == ("__debug__" : Str)) && !(x == ("__classdict__" : Str))
    | _ => false
  | .con d, e => match e with
    | .Constant c _ _ => ckC d c
    | _ => false
  | .glob x d, e => match e with
    | .Name y _ => decide (x = y) && glB sc y && C.isCon y d && !(y == ("__debug__" : Str))
    | _ => false
  | .tup es, e => match e with
    | .Tuple xs _ _ => ckEs C sc es xs && decide (es.length ≤ 1000)
    | _ => false
  | .lst es, e => match e with
    | .List xs _ => ckEs C sc es xs && decide (es.length ≤ 1000)
    | _ => false
  | .nlst es, e => match e with
    | .List xs _ => ckEs C sc es xs && decide (es.length ≤ 1000)
    | _ => false
  | .ndic ks es, e => match e with
    | .Dict keys values _ => ckKs C sc ks es keys values && decide (ks.length ≤ 15)
    | _ => false
  | .bin op a b, e => match e with
    | .BinOp x op' y _ => decide (op = op') && ckE C sc a x && ckE C sc b y
    | _ => false
  | .neg a, e => match e with
    | .UnaryOp .USub x _ => ckE C sc a x
    | _ => false
  | .inv a, e => match e with
    | .UnaryOp .Invert x _ => ckE C sc a x
    | _ => false
  | .cmp op a b, e => match e with
    | .Compare x [op'] [y] _ => decide (op = op') && !behindInMarks op y && ckE C sc a x && ckE C sc b y
    | _ => false
  | .cmp2 op op1 a b c, e => match e with
    | .Compare x [op', op1'] [y, z] _ => decide (op = op') && decide (op1 = op1') && !lastMarks [op, op1] [y, z] && ckE C sc a x && ckE C sc b y && ckE C sc c z
    | _ => false
  | .and es, e => match e with
    | .BoolOp .And xs _ => ckEs C sc es xs && !es.isEmpty
    | _ => false
  | .or es, e => match e with
    | .BoolOp .Or xs _ => ckEs C sc es xs && !es.isEmpty
    | _ => false
  | .not a, e => match e with
    | .UnaryOp .Not x _ => ckE C sc a x
    | _ => false
  | .ite c a b, e => match e with
    | .IfExp t x y _ => ckE C sc c t && c.tOk && ckE C sc a x && ckE C sc b y
    | _ => false
  | .ix a b, e => match e with
    | .Subscript x y _ => ckE C sc a x && ckE C sc b y
    | _ => false
  | .sl a lo hi, e => match e with
    | .Subscript x (.Slice l h none _) _ => ckE C sc a x && ckO C sc lo l && ckO C sc hi h
    | _ => false
  | .rev a, e => match e with
    | .Subscript x (.Slice none none (some (.UnaryOp .USub (.Constant (.int 1) _ _) _)) _) _ => ckE C sc a x
    | _ => false
  | .call f es, e => match e with
    | .Call (.Name x _) (y :: ys) [] _ => decide (C.fs[f]? = some x) && glB sc x && !(x == ("__debug__" : Str)) && ckEs C sc es (y :: ys)
    | _ => false
  | .bi b es, e => match b with
    | .isinst T => match es, e with
      | [a], .Call (.Name x _) [y, .Name t _] [] _ => decide (x = "isinstance") && glB sc x && clsOk T && decide (t = (T : Str)) && glB sc t && ckE C sc a y
      | _, _ => false
    | b => match e with
      | .Call (.Name x _) (y :: ys) [] _ => decide (x = b.name) && glB sc x && ckEs C sc es (y :: ys)
      | _ => false
  | .mt m o es, e => match e with
    | .Call (.Attribute x nm apos) ys [] cpos => decide (nm = m.name) && (apos.endLine == cpos.line) && decide (ys.length < 29) && ckE C sc o x && ckEs C sc es ys
    | _ => false
  | .kget x t k d, e => match e with
    | .Call (.Attribute (.Name y _) nm apos) [k', d'] [] cpos => decide (x = y) && decide (nm = "get") && glB sc y && !(y == ("__debug__" : Str)) && C.isDic y t && (apos.endLine == cpos.line) && ckE C sc k k' && ckE C sc d d'
    | _ => false
  | .lc mu elt g it c own, e => match e with
    | .ListComp e' [⟨tg, iter, ifs, 0⟩] scope _ => ckI C sc it iter tg && decide ((ownP C own).map (·.2) = own) && blkC C.N sc scope (ownP C own) && g.slots.all (fun i => decide (i ∈ own)) &&
        ckG C (fun x => scope.names.lookup x == some .cell) (relS scope sc) g tg && ckIf C (relS scope sc) c ifs && ckE C (relS scope sc) elt e'
    | _ => false
def ckEs (C : Ctx) (sc : Scope) : List E → List Expr → Bool
  | [], xs => xs.isEmpty
  | e :: es, xs => match xs with
    | x :: xs => ckE C sc e x && ckEs C sc es xs
    | [] => false
def ckKs (C : Ctx) (sc : Scope) (ks : List Str) : List E → List (Option Expr) → List Expr → Bool
  | [], keys, values => ks.isEmpty && keys.isEmpty && values.isEmpty
  | e :: es, keys, values => match ks, keys, values with
    | k :: ks, some (.Constant (.str k') _ _) :: keys, v :: values => decide (k = k') && ckE C sc e v && ckKs C sc ks es keys values
    | _, _, _ => false
def ckO (C : Ctx) (sc : Scope) : Option E → Option Expr → Bool
  | none, x => x.isNone
  | some e, x => match x with
    | some x => ckE C sc e x
    | none => false
def ckIf (C : Ctx) (sc : Scope) : Option E → List Expr → Bool
  | none, xs => xs.isEmpty
  | some e, xs => match xs with
    | [x] => ckE C sc e x && e.tOk
    | _ => false
def ckI (C : Ctx) (sc : Scope) : It → Expr → Expr → Bool
  | .seq e, x, _ => ckE C sc e x
  | .rng e, x, _ => match x with
    | .Call (.Name f _) [y] [] _ => decide (f = "range") && glB sc f && ckE C sc e y
    | _ => false
  | .rng2 e e2, x, _ => match x with
    | .Call (.Name f _) [y, z] [] _ => decide (f = "range") && glB sc f && ckE C sc e y && ckE C sc e2 z
    | _ => false
  | .rrng e, x, _ => match x with
    | .Call (.Name f _) [.Call (.Name f2 _) [y] [] _] [] _ => decide (f = "reversed") && glB sc f && decide (f2 = "range") && glB sc f2 && ckE C sc e y
    | _ => false
  | .enum e, x, tg => match x with
    | .Call (.Name f _) [y] [] _ => decide (f = "enumerate") && glB sc f && isTup tg && ckE C sc e y
    | _ => false
  | .zip e e2, x, tg => match x with
    | .Call (.Name f _) [y, z] [] _ => decide (f = "zip") && glB sc f && isTup tg && ckE C sc e y && ckE C sc e2 z
    | _ => false
end

/-- what a context must have -/
structure Gd (C : Ctx) (cf : CF) (sc : Scope) (X : Cx) : Prop where
  sc : X.env.scope = sc
  N : X.N = C.N
  nd : C.N.Nodup
  calm : Calm X
  xe : X.xe = fun _ _ => False
  glob : ∀ x d, C.isCon x d = true → ∃ u v, X.mg x = some u ∧ RelV v u ∧ ∀ w, Rp X.K w d v
  blt : ∀ x, isBlt x = true → X.mg x = none
  call : ∀ (f : Nat) (x : Str), C.fs[f]? = some x → ∃ k a fd ps, X.mg x = some (.ref a) ∧ PySem.W.keepIn X.K (.ref a) = true ∧ Binds X.K fd ps [] ∧ Room k X.A ∧ FnG X.prog X.w X.K X.mg X.base k a fd ps (OpN X.K (cf f))
  dic : ∀ x t, C.isDic x t = true → ∃ a, X.mg x = some (.ref a) ∧ KTab X.K X.w a t
theorem Gd.blk {C : Ctx} {cf : CF} {sc : Scope} {X : Cx} (G : Gd C cf sc X) (s : Shared) (H : Hp) (scope : Scope) (A : Addr) (cl : List (Str × Addr)) (fp : List Addr) : Gd C cf (relS scope sc) (X.blk s H scope (compEnvC scope cl A X.env) fp) where
  sc := by rw [← G.sc]; rfl
  N := G.N
  nd := G.nd
  calm := ⟨G.calm.calm, G.calm.units, G.calm.guards⟩
  xe := rfl
  glob := G.glob
  blt := G.blt
  call := G.call
  dic := G.dic
theorem Gd.gl {C : Ctx} {cf : CF} {sc : Scope} {X : Cx} (G : Gd C cf sc X) {x : Str} (h : glB sc x = true) : Gl X x := by
  have q : sc.names.lookup x = some .globalImplicit := of_decide_eq_true h
  rw [← G.sc] at q
  exact q

/-! ### what is written is never starred -/
theorem ck_star {C : Ctx} {sc : Scope} {ir : E} {e : Expr} (h : ckE C sc ir e = true) (es : List Expr) (env : PySem.Env) : starEach (e :: es) env = (false, eval e env) :: starEach es env := by
  cases e with
  | Starred x p =>
    cases ir with
    | bi b es => cases b <;> (simp only [ckE] at h; try (split at h <;> cases h)) <;> cases h
    | _ => simp only [ckE] at h <;> cases h
  | _ => rfl
theorem ck_stars {C : Ctx} {sc : Scope} {env : PySem.Env} : ∀ {irs : List E} {es : List Expr}, ckEs C sc irs es = true → starEach es env = es.map fun e => (false, eval e env)
  | [], es, h => by
    rw [ckEs, List.isEmpty_iff] at h
    subst h
    rfl
  | ir :: irs, [], h => by simp [ckEs] at h
  | ir :: irs, e :: es, h => by
    rw [ckEs, Bool.and_eq_true] at h
    rw [ck_star h.1, ck_stars h.2]
    rfl
theorem back_any {es : List Expr} {env : PySem.Env} {pos : Pos} : (backTo pos (es.map fun e => (false, eval e env))).any (·.1) = false := by
  unfold backTo
  rw [List.any_eq_false]
  intro x hx
  simp only [List.map_map, List.mem_map, Function.comp] at hx
  obtain ⟨e, _, rfl⟩ := hx
  simp
theorem back_all {es : List Expr} {env : PySem.Env} {pos : Pos} : (backTo pos (es.map fun e => (false, eval e env))).all (fun x => !x.1) = true := by
  unfold backTo
  rw [List.all_eq_true]
  intro x hx
  simp only [List.map_map, List.mem_map, Function.comp] at hx
  obtain ⟨e, _, rfl⟩ := hx
  rfl
theorem ck_few {C : Ctx} {sc : Scope} {env : PySem.Env} {irs : List E} {es : List Expr} {cpos : Pos} (h : ckEs C sc irs es = true) (hl : es.length < 29) : ((backTo cpos (starEach es env)).all (fun x => !x.1) && (backToKw cpos (keywordEach [] env)).all (fun x => x.1.isSome)
      && decide (es.length + ([] : List Keyword).length + (if ([] : List Keyword).isEmpty then 0 else 1) < 30)) = true := by
  rw [ck_stars h, back_all]
  simp [backToKw, keywordEach]
  omega
/-- the object of a method call is no super() -/
theorem ck_base {C : Ctx} {sc : Scope} {ir : E} {e : Expr} (h : ckE C sc ir e = true) (nm : Str) (env : PySem.Env) (W : Sem Value) : attributeBase e nm env W = W := by
  unfold attributeBase
  split
  · rename_i id p1 p2
    cases ir with
    | bi b es => cases b <;> (simp only [ckE] at h; try (split at h <;> cases h)) <;> cases h
    | _ => simp only [ckE] at h <;> cases h
  · rfl
theorem ck_ix {C : Ctx} {sc : Scope} {ir : E} {e : Expr} (h : ckE C sc ir e = true) : PlainIx e := by
  intro o i
  cases e with
  | Slice l hh s p =>
    cases ir with
    | bi b es => cases b <;> (simp only [ckE] at h; try (split at h <;> cases h)) <;> cases h
    | _ => simp only [ckE] at h <;> cases h
  | _ => rfl
theorem ck_set {C : Ctx} {sc : Scope} {ir : E} {e : Expr} (h : ckE C sc ir e = true) (env : PySem.Env) (x : Value) : foldedSetIterable e env x = pure x := by
  cases e with
  | Set l k p =>
    cases ir with
    | bi b es => cases b <;> (simp only [ckE] at h; try (split at h <;> cases h)) <;> cases h
    | _ => simp only [ckE] at h <;> cases h
  | _ => rfl

/-! ### targets -/
theorem pgN {C : Ctx} {cf : CF} {sc : Scope} {X : Cx} {fn : Str → Bool} (G : Gd C cf sc X) (hf : ∀ x, fn x = true → X.fn x = true) {i : Nat} {x : Str} {p : Pos} (h : ckN C fn sc i x = true) : PG X (.Name x p) (gName i) := by
  unfold ckN at h
  simp only [Bool.and_eq_true, Bool.or_eq_true, decide_eq_true_eq] at h
  obtain ⟨h1, h2⟩ := h
  rw [← G.sc] at h2
  refine pg_name (by rw [G.N]; exact G.nd) (by rw [G.N]; exact h1) ?_ ?_
  · rcases h2 with h2 | h2
    · exact .inl h2
    · exact .inr h2.1
  · rcases h2 with h2 | h2
    · exact .inr h2
    · exact .inl (hf x h2.2)
theorem pgNs {C : Ctx} {cf : CF} {sc : Scope} {X : Cx} {fn : Str → Bool} (G : Gd C cf sc X) (hf : ∀ x, fn x = true → X.fn x = true) : ∀ {is : List Nat} {es : List Expr}, ckNs C fn sc is es = true →
    PGs X es (gKs X.K is) ∧ (assignEach es X.env).length = is.length ∧ (assignEach es X.env).findIdx? (·.1) = none
  | [], [], _ => ⟨pgs_nil, rfl, rfl⟩
  | i :: is, e :: es, h => by
    cases e with
    | Name x p =>
      have h' : (ckN C fn sc i x && ckNs C fn sc is es) = true := h
      rw [Bool.and_eq_true] at h'
      obtain ⟨h1, h2⟩ := h'
      obtain ⟨q1, q2, q3⟩ := pgNs G hf h2
      refine ⟨pgs_cons (pgN G hf h1) q1 rfl, ?_, ?_⟩
      · show (_ :: assignEach es X.env).length = _
        rw [List.length_cons, List.length_cons, q2]
      · show List.findIdx? _ ((false, _) :: assignEach es X.env) = none
        rw [List.findIdx?_cons, q3]
        rfl
    | _ => exact absurd h (by simp [ckNs])
  | [], _ :: _, h => by simp [ckNs] at h
  | _ :: _, [], h => by simp [ckNs] at h
theorem pgG {C : Ctx} {cf : CF} {sc : Scope} {X : Cx} {fn : Str → Bool} (G : Gd C cf sc X) (hf : ∀ x, fn x = true → X.fn x = true) {g : Kw.G} {e : Expr} (h : ckG C fn sc g e = true) : PG X e (gK X.K g) := by
  unfold ckG at h
  split at h
  · exact pgN G hf h
  · obtain ⟨q1, q2, q3⟩ := pgNs G hf h
    exact pg_tup G.calm.calm q1 q2 q3
  · cases h
end Kw

set_option Elab.async false
set_option linter.all false
set_option maxRecDepth 100000
set_option maxHeartbeats 2000000
/-! Kw: the expressions are sound: the parts. -/
namespace Kw
open PySem PySem.Spec PyProof.Rows L2

section
variable {C : Ctx} {cf : CF} {sc : Scope} {X : Cx}
/-- isinstance(x, T) -/
def OpI (K : PySem.W.Frag) (T : String) : List V → Hp → VK → Prop := fun xs H Q => ∃ w d x b, w.H = H ∧ Ok K w ∧ Rp K w d x ∧ xs = [x, .ty T] ∧ isT T d = some b ∧ Q (.bl b) w.H
theorem isi_ok {T : String} (hT : clsOk T = true) : CallR X (.builtin "isinstance") (OpI X.K T) := by
  rintro pins s σ H xs us Q I rv ⟨w, d, x, b, rfl, ok, r, rfl, e, q⟩
  refine isinst_ok ?_ I ok r rv e q
  unfold clsOk at hT
  simp only [Bool.or_eq_true, beq_iff_eq] at hT
  rcases hT with (((h | h) | h) | h) | h
  · exact .inl h
  · exact .inr (.inl h)
  · exact .inr (.inr (.inl h))
  · exact .inr (.inr (.inr (.inl h)))
  · exact .inr (.inr (.inr (.inr h)))
theorem boot_cls {T : String} (hT : clsOk T = true) : bootBuiltins (T : Str) = some (.type T) ∧ isBlt (T : Str) = true ∧ (T : Str) ≠ "__name__" ∧ ((T : Str) == ("__debug__" : Str)) = false := by
  unfold clsOk at hT
  simp only [Bool.or_eq_true, beq_iff_eq] at hT
  rcases hT with (((rfl | rfl) | rfl) | rfl) | rfl <;> exact ⟨by rfl, by decide, by decide, by decide⟩
theorem pe_bi {b : Bi} {r : List V → Hp → VK → Prop} {p pos : Pos} {e : Expr} {es : List Expr} {t : TA} (hc : CallR X b.val r) (G : Gd C cf sc X) (hg : Gl X b.name) (ha : PA X (e :: es) t) (he : starEach (e :: es) X.env = (false, eval e X.env) :: starEach es X.env)
    (hpl : (backTo pos (starEach es X.env)).any (·.1) = false) : PE X (.Call (.Name b.name p) (e :: es) [] pos) (tCB r t) := by
  cases b with
  | len => exact pe_callB hc hg (G.blt _ (by decide)) (by rfl) ha (by decide) (by decide) he hpl
  | list => exact pe_callTy hc hg (G.blt _ (by decide)) (by rfl) ha (by decide) (by decide) he hpl
  | listM => exact pe_callTy hc hg (G.blt _ (by decide)) (by rfl) ha (by decide) (by decide) he hpl
  | tuple => exact pe_callTy hc hg (G.blt _ (by decide)) (by rfl) ha (by decide) (by decide) he hpl
  | sorted => exact pe_callB hc hg (G.blt _ (by decide)) (by rfl) ha (by decide) (by decide) he hpl
  | sum => exact pe_callB hc hg (G.blt _ (by decide)) (by rfl) ha (by decide) (by decide) he hpl
  | all => exact pe_callB hc hg (G.blt _ (by decide)) (by rfl) ha (by decide) (by decide) he hpl
  | any => exact pe_callB hc hg (G.blt _ (by decide)) (by rfl) ha (by decide) (by decide) he hpl
  | max => exact pe_callB hc hg (G.blt _ (by decide)) (by rfl) ha (by decide) (by decide) he hpl
  | min => exact pe_callB hc hg (G.blt _ (by decide)) (by rfl) ha (by decide) (by decide) he hpl
  | repr => exact pe_callB hc hg (G.blt _ (by decide)) (by rfl) ha (by decide) (by decide) he hpl
  | int => exact pe_callTy hc hg (G.blt _ (by decide)) (by rfl) ha (by decide) (by decide) he hpl
  | dict => exact pe_callTy hc hg (G.blt _ (by decide)) (by rfl) ha (by decide) (by decide) he hpl
  | isinst T => exact pe_callB (x := "isinstance") hc hg (G.blt "isinstance" (by decide)) (by rfl) ha (by decide) (by decide) he hpl

/-- .get of a written table -/
theorem pe_kg {y : Str} {a : Addr} {tb : List (Str × Int)} {t : TA} {p apos cpos : Pos} {k d : Expr} (T : KTab X.K X.w a tb) (hg : Gl X y) (hm : X.mg y = some (.ref a)) (hdb : (y == ("__debug__" : Str)) = false) (ha : PA X [k, d] t)
    (hfew : ((backTo cpos (starEach [k, d] X.env)).all (fun x => !x.1) && (backToKw cpos (keywordEach [] X.env)).all (fun x => x.1.isSome)
      && decide (([k, d] : List Expr).length + ([] : List Keyword).length + (if ([] : List Keyword).isEmpty then 0 else 1) < 30)) = true)
    (hline : (apos.endLine == cpos.line) = true) (hs : starEach [k, d] X.env = (false, eval k X.env) :: starEach [d] X.env) (hplain : (backTo cpos (starEach [d] X.env)).any (·.1) = false) :
    PE X (.Call (.Attribute (.Name y p) "get" apos) [k, d] [] cpos) (fun σ H Q => t σ H fun xs H2 => OpKg X.K a tb (.ref a) xs H2 Q) := by
  refine ⟨fun pins s σ H Q I h => ?_⟩
  have ho : PE X (.Name y p) (tC (.ref a)) := pe_glob hg hm (show RelV (.ref a) (Value.ref a) from rfl) hdb
  refine wpAny_Call_method_late (by rfl) hfew hline rfl (thn (ho.run pins s σ H (fun x H1 => x = .ref a ∧ t σ H1 fun xs H2 => OpKg X.K a tb (.ref a) xs H2 Q) I ⟨rfl, h⟩) fun v s1 ⟨x, H1, I1, r1, ex, q1⟩ => ?_)
  subst ex
  obtain rfl : v = Value.ref a := r1
  obtain ⟨es, n, D, _⟩ := T.ex
  have hm := PySem.W.mapOf_K (prog := X.prog) (w := X.w) I1.kIn D.at_ D.lit
  refine ⟨"dict", "dict.get", F.plainAttrs_dict, F.slot_dict_get, F.type_dict_get, hm.typeIs, fun b eb => ?_, ?_⟩
  · cases eb
    exact ⟨_, I1.kIn _ _ D.at_, rfl⟩
  · have hA := ha.run cpos pins s1 σ H1 _ I1 q1
    rw [hs] at hA ⊢
    refine Calls.callWith_builtin (by show (false || (backTo cpos (starEach [d] X.env)).any (·.1)) = false; rw [hplain] <;> rfl) (Calls.evalArgs_plain ?_)
    exact thn hA fun us s2 ⟨vs, H2, I2, r2, q2⟩ => kg_ok T pins s2 σ H2 (.ref a) vs (.ref a) us Q I2 rfl r2 q2
end

/-! ### the parts put together -/
section
variable {X : Cx} {e e2 e3 : Expr} {es : List Expr} {pos : Pos} {ev ev2 ev3 ev' : Env → Store → R D} {evs : Env → Store → R (List D)}
theorem sE_var {i : Nat} {x : Str} (hN : X.N[i]? = some x) (hv : Vis X.env.scope x) (hd : (x == ("__debug__" : Str)) = false) (hcd : (x == ("__classdict__" : Str)) = false)
    (h' : ∀ env st r, ev' env st = some r → ∃ d, env[i]? = some (some d) ∧ r = (d, st)) : PE X (.Name x pos) (SemE X.K ev') := by
  refine peTo (pe_var hN hv hd hcd) fun σ H Q ⟨w, env, d, st', hH, ok, er, e0, post⟩ => ?_
  obtain ⟨d', q, e1⟩ := h' _ _ _ e0
  cases e1
  subst hH
  obtain ⟨v, hv, r⟩ := er.2 i d q
  exact ⟨v, hv, post.same ok r⟩
theorem sE_val {v : V} {d : D} (he : PE X e (tC v)) (hr : ∀ w, Rp X.K w d v) (h' : ∀ env st r, ev' env st = some r → r = (d, st)) : PE X e (SemE X.K ev') := by
  refine peTo he fun σ H Q ⟨w, env, d', st', hH, ok, er, e0, post⟩ => ?_
  cases h' _ _ _ e0
  subst hH
  exact post.same ok (hr w)
theorem sE_tup {x1} (ha : PA X es (SemA X.K evs)) (h' : ∀ env st r, ev' env st = some r → ∃ ds st1, evs env st = some (ds, st1) ∧ ds.length ≤ 1000 ∧ r = (.tup ds, st1)) : PE X (.Tuple es x1 pos) (SemE X.K ev') := by
  refine peTo (pe_tup ha) fun σ H Q ⟨w, env, d, st', hH, ok, er, e0, post⟩ => ?_
  obtain ⟨ds, st1, e1, hl, e2⟩ := h' _ _ _ e0
  cases e2
  refine ⟨w, env, ds, _, hH, ok, er, e1, fun w1 vs k1 le1 es1 r1 => ⟨?_, fun p hp => ?_⟩⟩
  · rw [r1.length]; exact lim_size (Nat.le_trans hl (by decide))
  · have q := (es1 ▸ post.mono le1 : Post X.K w1 _ w1.st Q)
    exact q.tup k1 hp r1
theorem sE_lst (ha : PA X es (SemA X.K evs)) (h' : ∀ env st r, ev' env st = some r → ∃ ds st1, evs env st = some (ds, st1) ∧ ds.length ≤ 1000 ∧ r = (.lst ds, st1)) : PE X (.List es pos) (SemE X.K ev') := by
  refine peTo (pe_lst ha) fun σ H Q ⟨w, env, d, st', hH, ok, er, e0, post⟩ => ?_
  obtain ⟨ds, st1, e1, hl, e2⟩ := h' _ _ _ e0
  cases e2
  refine ⟨w, env, ds, _, hH, ok, er, e1, fun w1 vs k1 le1 es1 r1 => ⟨?_, fun p hp => ?_⟩⟩
  · rw [r1.length]; exact lim_size (Nat.le_trans hl (by decide))
  · have q := (es1 ▸ post.mono le1 : Post X.K w1 _ w1.st Q)
    exact q.lst k1 hp r1
theorem sE_nlst (ha : PA X es (SemA X.K evs)) (h' : ∀ env st r, ev' env st = some r → ∃ ds st1, evs env st = some (ds, st1) ∧ ds.length ≤ 1000 ∧ D.unds st1.length ds = true ∧ r = (.ref st1.length, st1 ++ [.lst ds])) : PE X (.List es pos) (SemE X.K ev') := by
  refine peTo (pe_lst ha) fun σ H Q ⟨w, env, d, st', hH, ok, er, e0, post⟩ => ?_
  obtain ⟨ds, st1, e1, hl, hu, e2⟩ := h' _ _ _ e0
  cases e2
  refine ⟨w, env, ds, _, hH, ok, er, e1, fun w1 vs k1 le1 es1 r1 => ⟨?_, fun p hp => ?_⟩⟩
  · rw [r1.length]; exact lim_size (Nat.le_trans hl (by decide))
  · subst es1
    exact (post.mono le1).newL k1 hp r1 hu
/-- two values, then f -/
theorem two_ok {f : D → D → Store → Option D} {σ : L2.St} {H : Hp} {Q : VK} (h : SemE X.K ev' σ H Q) (h' : ∀ env st r, ev' env st = some r → ∃ x st1 y st2 z, ev env st = some (x, st1) ∧ ev2 env st1 = some (y, st2) ∧ f x y st2 = some z ∧ r = (z, st2)) :
    tOp (Op2 X.K f) (SemE X.K ev) (SemE X.K ev2) σ H Q := by
  obtain ⟨w, env, d, st', hH, ok, er, e0, post⟩ := h
  obtain ⟨x, st1, y, st2, z, e1, e2, e3, e4⟩ := h' _ _ _ e0
  cases e4
  refine ⟨w, env, x, st1, hH, ok, er, e1, fun w1 v k1 le1 es1 r1 => ⟨w1, env, y, _, rfl, k1, er.mono ok le1, by rw [es1]; exact e2, fun w2 u k2 le2 es2 r2 => ?_⟩⟩
  subst es2
  exact ⟨w2, x, y, _, rfl, k2, r1.mono k1 le2, r2, e3, post.mono (le1.trans le2)⟩
theorem sE_bin {op : Operator} (ha : PE X e (SemE X.K ev)) (hb : PE X e2 (SemE X.K ev2)) (h' : ∀ env st r, ev' env st = some r → ∃ x st1 y st2 z, ev env st = some (x, st1) ∧ ev2 env st1 = some (y, st2) ∧ binD op (rd st2 x) (rd st2 y) = some z ∧ r = (z, st2)) :
    PE X (.BinOp e op e2 pos) (SemE X.K ev') := peTo (pe_op (op_bin op) ha hb) fun σ H Q h => two_ok h h'
theorem sE_un {op : UnaryOp} {g : Int → Int} (hu : UnR X (unaryOp op) (rU fun i => .int (g i))) (ha : PE X e (SemE X.K ev)) (h' : ∀ env st r, ev' env st = some r → ∃ i st1, ev env st = some (.int i, st1) ∧ r = (.int (g i), st1)) : PE X (.UnaryOp op e pos) (SemE X.K ev') := by
  refine peTo (pe_un hu ha) fun σ H Q ⟨w, env, d, st', hH, ok, er, e0, post⟩ => ?_
  obtain ⟨i, st1, e1, e2⟩ := h' _ _ _ e0
  cases e2
  refine ⟨w, env, _, _, hH, ok, er, e1, fun w1 v k1 le1 es1 r1 => ?_⟩
  cases r1
  subst es1
  exact ⟨i, rfl, (post.mono le1).same k1 (.int _)⟩
theorem sE_cmp (hu : X.A.units + 65 < cLine) {op : CmpOp} (hm : behindInMarks op e2 = false) (ha : PE X e (SemE X.K ev)) (hb : PE X e2 (SemE X.K ev2)) (h' : ∀ env st r, ev' env st = some r → ∃ x st1 y st2 z, ev env st = some (x, st1) ∧ ev2 env st1 = some (y, st2) ∧ (cmpD op st2 x y).map D.bl = some z ∧ r = (z, st2)) :
    PE X (.Compare e [op] [e2] pos) (SemE X.K ev') := peTo (pe_cmpR (op_cmp hu op) ha hb hm) fun σ H Q h => two_ok h h'
theorem sT_cmp (hu : X.A.units + 65 < cLine) {op : CmpOp} {evb : Env → Store → R Bool} (hm : behindInMarks op e2 = false) (ha : PE X e (SemE X.K ev)) (hb : PE X e2 (SemE X.K ev2))
    (h' : ∀ env st r, evb env st = some r → ∃ x st1 y st2 z, ev env st = some (x, st1) ∧ ev2 env st1 = some (y, st2) ∧ cmpD op st2 x y = some z ∧ r = (z, st2)) :
    PT X (.Compare e [op] [e2] pos) (SemT X.K evb) := ptTo (pt_cmpR (op_cmp hu op) ha hb hm) fun σ H Q ⟨w, env, b, st', hH, ok, er, e0, post⟩ => by
  obtain ⟨x, st1, y, st2, z, e1, e2, e3, e4⟩ := h' _ _ _ e0
  cases e4
  refine ⟨w, env, x, st1, hH, ok, er, e1, fun w1 v k1 le1 es1 r1 => ⟨w1, env, y, _, rfl, k1, er.mono ok le1, by rw [es1]; exact e2, fun w2 u k2 le2 es2 r2 => ?_⟩⟩
  subst es2
  refine ⟨w2, x, y, .bl b, rfl, k2, r1.mono k1 le2, r2, congrArg (Option.map D.bl) e3, fun w3 v3 k3 le3 es3 r3 => ?_⟩
  cases r3
  exact ⟨b, rfl, post w3 k3 (le1.trans (le2.trans le3)) es3⟩
/-- a op b op c -/
theorem chain_ok {op op' : CmpOp} {σ : L2.St} {H : Hp} {Q : VK} (h : SemE X.K ev' σ H Q)
    (h' : ∀ env st r, ev' env st = some r → ∃ x st1 y st2 z, ev env st = some (x, st1) ∧ ev2 env st1 = some (y, st2) ∧ cmpD op st2 x y = some z ∧ ((z = false ∧ r = (.bl false, st2)) ∨ (z = true ∧ ∃ u st3 c, ev3 env st2 = some (u, st3) ∧ cmpD op' st3 y u = some c ∧ r = (.bl c, st3)))) :
    tChain (Op2 X.K fun a b st => (cmpD op st a b).map D.bl) (Op2 X.K fun a b st => (cmpD op' st a b).map D.bl) (SemE X.K ev) (SemE X.K ev2) (SemE X.K ev3) σ H Q := by
  obtain ⟨w, env, d, st', hH, ok, er, e0, post⟩ := h
  obtain ⟨x, st1, y, st2, z, e1, e2, e3, e4⟩ := h' _ _ _ e0
  refine ⟨w, env, x, st1, hH, ok, er, e1, fun w1 v k1 le1 es1 r1 => ⟨w1, env, y, st2, rfl, k1, er.mono ok le1, by rw [es1]; exact e2, fun w2 u k2 le2 es2 r2 => ?_⟩⟩
  subst es2
  refine ⟨w2, x, y, .bl z, rfl, k2, r1.mono k1 le2, r2, congrArg (Option.map D.bl) e3, fun w3 v3 k3 le3 es3 r3 => ?_⟩
  cases r3
  refine ⟨z, rfl, ?_⟩
  rcases e4 with ⟨rfl, e4⟩ | ⟨rfl, u', st3, c, e5, e6, e7⟩
  · cases e4
    rw [if_neg Bool.false_ne_true]
    exact post w3 _ k3 (le1.trans (le2.trans le3)) es3 (.bl _)
  · cases e7
    rw [if_pos rfl]
    refine ⟨w3, env, u', _, rfl, k3, er.mono ok (le1.trans (le2.trans le3)), by rw [es3]; exact e5, fun w4 v4 k4 le4 es4 r4 => ?_⟩
    subst es4
    exact ⟨w4, y, u', .bl c, rfl, k4, (r2.mono k2 le3).mono k3 le4, r4, congrArg (Option.map D.bl) e6, post.mono (le1.trans (le2.trans (le3.trans le4)))⟩
theorem sE_chain (hu : X.A.units + 65 < cLine) {op op' : CmpOp} (hm : lastMarks [op, op'] [e2, e3] = false) (ha : PE X e (SemE X.K ev)) (hb : PE X e2 (SemE X.K ev2)) (hc : PE X e3 (SemE X.K ev3))
    (h' : ∀ env st r, ev' env st = some r → ∃ x st1 y st2 z, ev env st = some (x, st1) ∧ ev2 env st1 = some (y, st2) ∧ cmpD op st2 x y = some z ∧ ((z = false ∧ r = (.bl false, st2)) ∨ (z = true ∧ ∃ u st3 c, ev3 env st2 = some (u, st3) ∧ cmpD op' st3 y u = some c ∧ r = (.bl c, st3)))) :
    PE X (.Compare e [op, op'] [e2, e3] pos) (SemE X.K ev') := peTo (pe_chain (op_cmp hu op) (op_cmp hu op') ha hb hc hm) fun σ H Q h => chain_ok h h'
/-- a test from a value that is a bool -/
theorem SemT.of {evb : Env → Store → R Bool} {σ : L2.St} {H : Hp} {Q : Bool → Hp → Prop} (h : SemT X.K evb σ H Q) (h' : ∀ env st r, evb env st = some r → ev' env st = some (.bl r.1, r.2)) : SemE X.K ev' σ H fun x H' => ∃ k, x = .bl k ∧ Q k H' := by
  obtain ⟨w, env, b, st', hH, ok, er, e0, post⟩ := h
  refine ⟨w, env, .bl b, st', hH, ok, er, h' _ _ _ e0, fun w1 v k1 le1 es1 r1 => ?_⟩
  cases r1
  exact ⟨b, rfl, post w1 k1 le1 es1⟩
theorem sT_chain (hu : X.A.units + 65 < cLine) {op op' : CmpOp} {evb : Env → Store → R Bool} (hm : lastMarks [op, op'] [e2, e3] = false) (ha : PE X e (SemE X.K ev)) (hb : PE X e2 (SemE X.K ev2)) (hc : PE X e3 (SemE X.K ev3))
    (hv : ∀ env st r, evb env st = some r → ev' env st = some (.bl r.1, r.2))
    (h' : ∀ env st r, ev' env st = some r → ∃ x st1 y st2 z, ev env st = some (x, st1) ∧ ev2 env st1 = some (y, st2) ∧ cmpD op st2 x y = some z ∧ ((z = false ∧ r = (.bl false, st2)) ∨ (z = true ∧ ∃ u st3 c, ev3 env st2 = some (u, st3) ∧ cmpD op' st3 y u = some c ∧ r = (.bl c, st3)))) :
    PT X (.Compare e [op, op'] [e2, e3] pos) (SemT X.K evb) := ptTo (pt_chain (op_cmp hu op) (op_cmp hu op') ha hb hc hm) fun σ H Q h => chain_ok (h.of hv) h'
theorem sE_ix (hu : X.A.units + 65 < cLine) (hs : PlainIx e2) (ha : PE X e (SemE X.K ev)) (hb : PE X e2 (SemE X.K ev2)) (h' : ∀ env st r, ev' env st = some r → ∃ x st1 y st2 z, ev env st = some (x, st1) ∧ ev2 env st1 = some (y, st2) ∧ ixD st2 x y = some z ∧ r = (z, st2)) :
    PE X (.Subscript e e2 pos) (SemE X.K ev') := peTo (pe_ix (ix_of hu) ha hb hs) fun σ H Q h => two_ok h h'
theorem sO_none {evo : Env → Store → R (Option Int)} (h' : ∀ env st r, evo env st = some r → r = (none, st)) : PO X none (SemO X.K evo) := by
  refine poTo po_none fun σ H Q ⟨w, env, b, st', hH, ok, er, e0, post⟩ => ?_
  cases h' _ _ _ e0
  subst hH
  exact post w ok (Le.refl _) rfl
theorem sO_some {evo : Env → Store → R (Option Int)} (ha : PE X e (SemE X.K ev)) (h' : ∀ env st r, evo env st = some r → ∃ i st1, ev env st = some (.int i, st1) ∧ r = (some i, st1)) : PO X (some e) (SemO X.K evo) := by
  refine poTo (po_some ha) fun σ H Q ⟨w, env, b, st', hH, ok, er, e0, post⟩ => ?_
  obtain ⟨i, st1, e1, e2⟩ := h' _ _ _ e0
  cases e2
  refine ⟨w, env, _, _, hH, ok, er, e1, fun w1 v k1 le1 es1 r1 => ?_⟩
  cases r1
  exact ⟨i, rfl, post w1 k1 le1 es1⟩
theorem sE_sl {lo hi : Option Expr} {p2 : Pos} {evl evh : Env → Store → R (Option Int)} (ha : PE X e (SemE X.K ev)) (hl : PO X lo (SemO X.K evl)) (hh : PO X hi (SemO X.K evh))
    (h' : ∀ env st r, ev' env st = some r → ∃ x st1 l st2 h st3 z, ev env st = some (x, st1) ∧ evl env st1 = some (l, st2) ∧ evh env st2 = some (h, st3) ∧ slD (rd st3 x) l h = some z ∧ r = (z, st3)) : PE X (.Subscript e (.Slice lo hi none p2) pos) (SemE X.K ev') := by
  refine peTo (pe_slice sl_of ha hl hh) fun σ H Q ⟨w, env, d, st', hH, ok, er, e0, post⟩ => ?_
  obtain ⟨x, st1, l, st2, h, st3, z, e1, e2, e3, e4, e5⟩ := h' _ _ _ e0
  cases e5
  refine ⟨w, env, x, st1, hH, ok, er, e1, fun w1 v k1 le1 es1 r1 => ⟨w1, env, l, st2, rfl, k1, er.mono ok le1, by rw [es1]; exact e2, fun w2 k2 le2 es2 => ⟨w2, env, h, _, rfl, k2, er.mono ok (le1.trans le2), by rw [es2]; exact e3, fun w3 k3 le3 es3 => ?_⟩⟩⟩
  subst es3
  exact ⟨w3, x, _, rfl, k3, (r1.mono k1 le2).mono k2 le3, e4, post.mono (le1.trans (le2.trans le3))⟩
theorem Rps.reverse {K : PySem.W.Frag} {w : Wd} : ∀ {ds : List D} {vs : List V}, Rps K w ds vs → Rps K w ds.reverse vs.reverse
  | _, _, .nil => .nil
  | _, _, .cons h t => by
    rw [List.reverse_cons, List.reverse_cons]
    exact (Rps.reverse t).append (.cons h .nil)
theorem sE_rev {k : Nat} {p1 p2 p3 : Pos} (ha : PE X e (SemE X.K ev)) (h' : ∀ env st r, ev' env st = some r → ∃ x st1 ds, ev env st = some (x, st1) ∧ rd st1 x = .lst ds ∧ r = (.lst ds.reverse, st1)) : PE X (.Subscript e (.Slice none none (some (.UnaryOp .USub (.Constant (.int 1) k p1) p2)) p3) pos) (SemE X.K ev') := by
  refine peTo (pe_revL ha) fun σ H Q ⟨w, env, d, st', hH, ok, er, e0, post⟩ => ?_
  obtain ⟨x, st1, ds, e1, e2, e3⟩ := h' _ _ _ e0
  cases e3
  refine ⟨w, env, x, _, hH, ok, er, e1, fun w1 v k1 le1 es1 r1 => ?_⟩
  subst es1
  obtain ⟨a, vs, rfl, h2, r2⟩ := rd_lst k1 r1 e2
  exact ⟨a, vs, rfl, .inl (.inl h2), fun p hp => (post.mono le1).lst k1 hp r2.reverse⟩
/-- arguments, then f -/
theorem args_ok {f : List D → Store → R D} {σ : L2.St} {H : Hp} {Q : VK} (h : SemE X.K ev' σ H Q) (h' : ∀ env st r, ev' env st = some r → ∃ ds st1, evs env st = some (ds, st1) ∧ f ds st1 = some r) : SemA X.K evs σ H fun vs H1 => OpN X.K f vs H1 Q := by
  obtain ⟨w, env, d, st', hH, ok, er, e0, post⟩ := h
  obtain ⟨ds, st1, e1, e2⟩ := h' _ _ _ e0
  refine ⟨w, env, ds, st1, hH, ok, er, e1, fun w1 vs k1 le1 es1 r1 => ⟨w1, ds, d, st', rfl, k1, r1, by rw [es1]; exact e2, post.mono le1⟩⟩
theorem sA_nil (h' : ∀ env st r, evs env st = some r → r = ([], st)) : PA X [] (SemA X.K evs) := by
  refine paTo pa_nil fun σ H Q ⟨w, env, b, st', hH, ok, er, e0, post⟩ => ?_
  cases h' _ _ _ e0
  subst hH
  exact post w [] ok (Le.refl _) rfl .nil
theorem sA_cons {evr : Env → Store → R (List D)} (hs : starEach (e :: es) X.env = (false, eval e X.env) :: starEach es X.env) (ha : PE X e (SemE X.K ev)) (hr : PA X es (SemA X.K evr)) (h' : ∀ env st r, evs env st = some r → ∃ d st1 ds st2, ev env st = some (d, st1) ∧ evr env st1 = some (ds, st2) ∧ r = (d :: ds, st2)) :
    PA X (e :: es) (SemA X.K evs) := by
  refine paTo (pa_cons ha hr hs) fun σ H Q ⟨w, env, b, st', hH, ok, er, e0, post⟩ => ?_
  obtain ⟨d, st1, ds, st2, e1, e2, e3⟩ := h' _ _ _ e0
  cases e3
  exact ⟨w, env, d, st1, hH, ok, er, e1, fun w1 v k1 le1 es1 r1 => ⟨w1, env, ds, _, rfl, k1, er.mono ok le1, by rw [es1]; exact e2, fun w2 vs k2 le2 es2 r2 => post w2 _ k2 (le1.trans le2) es2 (.cons (r1.mono k1 le2) r2)⟩⟩
/-- a method -/
theorem sE_mt {m : Mt} {apos cpos : Pos} (Cm : Calm X) (hbase : attributeBase e m.name X.env (eval e X.env) = eval e X.env) (hline : (apos.endLine == cpos.line) = true)
    (ho : PE X e (SemE X.K ev)) (ha : PA X es (SemA X.K evs)) (hst : starEach es X.env = es.map fun e => (false, eval e X.env)) (hst2 : ∀ a as, es = a :: as → starEach (a :: as) X.env = (false, eval a X.env) :: starEach as X.env ∧ starEach as X.env = as.map fun e => (false, eval e X.env)) (hlt : es.length < 29)
    (hnil : es = [] → ∀ env st r, evs env st = some r → r = ([], st))
    (h' : ∀ env st r, ev' env st = some r → ∃ x st1 ds st2, ev env st = some (x, st1) ∧ mtTy m x st1 = true ∧ evs env st1 = some (ds, st2) ∧ mtD m x ds st2 = some r) : PE X (.Call (.Attribute e m.name apos) es [] cpos) (SemE X.K ev') := by
  cases es with
  | nil =>
    refine peTo (pe_bm0 m.pa m.slot m.hty (mt_ok Cm m) ho hbase hline) fun σ H Q ⟨w, env, d, st', hH, ok, er, e0, post⟩ => ?_
    obtain ⟨x, st1, ds, st2, e1, e2, e3, e4⟩ := h' _ _ _ e0
    cases hnil rfl _ _ _ e3
    refine ⟨w, env, x, _, hH, ok, er, e1, fun w1 v k1 le1 es1 r1 => ⟨mtTy_ok k1 r1 (by rw [es1]; exact e2), w1, x, [], d, st', rfl, k1, r1, .nil, by rw [es1]; exact e4, post.mono le1⟩⟩
  | cons a as =>
    obtain ⟨h1, h2⟩ := hst2 a as rfl
    refine peTo (pe_bm m.pa m.slot m.hty (mt_ok Cm m) ho ha hbase ?_ hline h1 (by rw [h2]; exact back_any)) fun σ H Q ⟨w, env, d, st', hH, ok, er, e0, post⟩ => ?_
    · rw [hst, back_all]
      simp [backToKw, keywordEach]
      simp at hlt
      omega
    · obtain ⟨x, st1, ds, st2, e1, e2, e3, e4⟩ := h' _ _ _ e0
      refine ⟨w, env, x, st1, hH, ok, er, e1, fun w1 v k1 le1 es1 r1 => ⟨mtTy_ok k1 r1 (by rw [es1]; exact e2), w1, env, ds, st2, rfl, k1, er.mono ok le1, by rw [es1]; exact e3, fun w2 vs k2 le2 es2 r2 => ?_⟩⟩
      exact ⟨w2, x, ds, d, st', rfl, k2, r1.mono k1 le2, r2, by rw [es2]; exact e4, post.mono (le1.trans le2)⟩
/-- and, or: by bools -/
theorem sE_and {rest : List Expr} (ha : PE X e (SemE X.K ev)) (hb : PE X (.BoolOp .And (e2 :: rest) pos) (SemE X.K ev2)) (h' : ∀ env st r, ev' env st = some r → ∃ b st1, ev env st = some (.bl b, st1) ∧ ((b = true ∧ ev2 env st1 = some r) ∨ (b = false ∧ r = (.bl false, st1)))) :
    PE X (.BoolOp .And (e :: e2 :: rest) pos) (SemE X.K ev') := by
  refine peTo (pe_and ha hb) fun σ H Q ⟨w, env, d, st', hH, ok, er, e0, post⟩ => ?_
  obtain ⟨b, st1, e1, e3⟩ := h' _ _ _ e0
  refine ⟨w, env, _, st1, hH, ok, er, e1, fun w1 v k1 le1 es1 r1 => ?_⟩
  cases r1
  refine ⟨b, rfl, ?_⟩
  subst es1
  rcases e3 with ⟨rfl, e3⟩ | ⟨rfl, e3⟩
  · rw [if_pos rfl]
    exact ⟨w1, env, d, st', rfl, k1, er.mono ok le1, e3, post.mono le1⟩
  · rw [if_neg Bool.false_ne_true]
    cases e3
    exact (post.mono le1).same k1 (.bl _)
theorem sE_or {rest : List Expr} (ha : PE X e (SemE X.K ev)) (hb : PE X (.BoolOp .Or (e2 :: rest) pos) (SemE X.K ev2)) (h' : ∀ env st r, ev' env st = some r → ∃ b st1, ev env st = some (.bl b, st1) ∧ ((b = false ∧ ev2 env st1 = some r) ∨ (b = true ∧ r = (.bl true, st1)))) :
    PE X (.BoolOp .Or (e :: e2 :: rest) pos) (SemE X.K ev') := by
  refine peTo (pe_or ha hb) fun σ H Q ⟨w, env, d, st', hH, ok, er, e0, post⟩ => ?_
  obtain ⟨b, st1, e1, e3⟩ := h' _ _ _ e0
  refine ⟨w, env, _, st1, hH, ok, er, e1, fun w1 v k1 le1 es1 r1 => ?_⟩
  cases r1
  refine ⟨b, rfl, ?_⟩
  subst es1
  rcases e3 with ⟨rfl, e3⟩ | ⟨rfl, e3⟩
  · rw [if_neg Bool.false_ne_true]
    exact ⟨w1, env, d, st', rfl, k1, er.mono ok le1, e3, post.mono le1⟩
  · rw [if_pos rfl]
    cases e3
    exact (post.mono le1).same k1 (.bl _)
theorem sT_and {rest : List Expr} {eva evb evb' : Env → Store → R Bool} (ha : PT X e (SemT X.K eva)) (hb : PW X (.BoolOp .And (e2 :: rest) pos) (SemT X.K evb)) (h' : ∀ env st r, evb' env st = some r → ∃ b st1, eva env st = some (b, st1) ∧ ((b = true ∧ evb env st1 = some r) ∨ (b = false ∧ r = (false, st1)))) :
    PW X (.BoolOp .And (e :: e2 :: rest) pos) (SemT X.K evb') := by
  refine pwTo (pw_and ha hb) fun σ H Q ⟨w, env, d, st', hH, ok, er, e0, post⟩ => ?_
  obtain ⟨b, st1, e1, e3⟩ := h' _ _ _ e0
  refine ⟨w, env, b, st1, hH, ok, er, e1, fun w1 k1 le1 es1 => ?_⟩
  subst es1
  rcases e3 with ⟨rfl, e3⟩ | ⟨rfl, e3⟩
  · rw [if_pos rfl]
    exact ⟨w1, env, d, st', rfl, k1, er.mono ok le1, e3, fun w2 k2 le2 es2 => post w2 k2 (le1.trans le2) es2⟩
  · rw [if_neg Bool.false_ne_true]
    cases e3
    exact post w1 k1 le1 rfl
theorem sT_or {rest : List Expr} {eva evb evb' : Env → Store → R Bool} (ha : PT X e (SemT X.K eva)) (hb : PW X (.BoolOp .Or (e2 :: rest) pos) (SemT X.K evb)) (h' : ∀ env st r, evb' env st = some r → ∃ b st1, eva env st = some (b, st1) ∧ ((b = false ∧ evb env st1 = some r) ∨ (b = true ∧ r = (true, st1)))) :
    PW X (.BoolOp .Or (e :: e2 :: rest) pos) (SemT X.K evb') := by
  refine pwTo (pw_or ha hb) fun σ H Q ⟨w, env, d, st', hH, ok, er, e0, post⟩ => ?_
  obtain ⟨b, st1, e1, e3⟩ := h' _ _ _ e0
  refine ⟨w, env, b, st1, hH, ok, er, e1, fun w1 k1 le1 es1 => ?_⟩
  subst es1
  rcases e3 with ⟨rfl, e3⟩ | ⟨rfl, e3⟩
  · rw [if_neg Bool.false_ne_true]
    exact ⟨w1, env, d, st', rfl, k1, er.mono ok le1, e3, fun w2 k2 le2 es2 => post w2 k2 (le1.trans le2) es2⟩
  · rw [if_pos rfl]
    cases e3
    exact post w1 k1 le1 rfl
theorem sT_not {eva evb' : Env → Store → R Bool} (ha : PT X e (SemT X.K eva)) (h' : ∀ env st r, evb' env st = some r → ∃ b st1, eva env st = some (b, st1) ∧ r = (!b, st1)) : PT X (.UnaryOp .Not e pos) (SemT X.K evb') := by
  refine ptTo (pt_not ha) fun σ H Q ⟨w, env, d, st', hH, ok, er, e0, post⟩ => ?_
  obtain ⟨b, st1, e1, e3⟩ := h' _ _ _ e0
  cases e3
  exact ⟨w, env, b, _, hH, ok, er, e1, post⟩
theorem truv {K : PySem.W.Frag} {w : Wd} {d : D} {v : V} {b : Bool} (r : Rp K w d v) (h : d.truth = some b) : TruV K v w.H b := by
  unfold D.truth at h
  split at h
  · cases h; cases r; rfl
  · cases h; cases r; rfl
  · cases h; cases r; rfl
  · cases h
/-- a value's truth -/
theorem sT_val {evb : Env → Store → R Bool} (ha : PE X e (SemE X.K ev)) (he : ∀ whole, isTrue e X.env whole = (do let v ← whole; standAt e.pos; holding [v] (truthy v)))
    (h' : ∀ env st r, evb env st = some r → ∃ d, ev env st = some (d, r.2) ∧ d.truth = some r.1) : PT X e (SemT X.K evb) := by
  refine ptTo (pt_truth ha he) fun σ H Q ⟨w, env, b, st', hH, ok, er, e0, post⟩ => ?_
  obtain ⟨d, e1, e2⟩ := h' _ _ _ e0
  exact ⟨w, env, d, st', hH, ok, er, e1, fun w1 v k1 le1 es1 r1 => ⟨b, truv r1 e2, post w1 k1 le1 es1⟩⟩
theorem sE_not (ha : PE X e (SemE X.K ev)) (h' : ∀ env st r, ev' env st = some r → ∃ d st1 b, ev env st = some (d, st1) ∧ d.truth = some b ∧ r = (.bl (!b), st1)) : PE X (.UnaryOp .Not e pos) (SemE X.K ev') := by
  refine peTo (pe_notT ha) fun σ H Q ⟨w, env, d', st', hH, ok, er, e0, post⟩ => ?_
  obtain ⟨d, st1, b, e1, e2, e3⟩ := h' _ _ _ e0
  cases e3
  refine ⟨w, env, d, _, hH, ok, er, e1, fun w1 v k1 le1 es1 r1 => ⟨b, truv r1 e2, ?_⟩⟩
  subst es1
  exact (post.mono le1).same k1 (.bl _)
theorem sE_ite {evc : Env → Store → R Bool} (hc : PT X e3 (SemT X.K evc)) (ha : PE X e (SemE X.K ev)) (hb : PE X e2 (SemE X.K ev2)) (h' : ∀ env st r, ev' env st = some r → ∃ b st1, evc env st = some (b, st1) ∧ ((b = true ∧ ev env st1 = some r) ∨ (b = false ∧ ev2 env st1 = some r))) :
    PE X (.IfExp e3 e e2 pos) (SemE X.K ev') := by
  refine peTo (pe_ifExp hc ha hb) fun σ H Q ⟨w, env, d, st', hH, ok, er, e0, post⟩ => ?_
  obtain ⟨b, st1, e1, e3⟩ := h' _ _ _ e0
  refine ⟨w, env, b, st1, hH, ok, er, e1, fun w1 k1 le1 es1 => ?_⟩
  subst es1
  rcases e3 with ⟨rfl, e3⟩ | ⟨rfl, e3⟩
  · rw [if_pos rfl]
    exact ⟨w1, env, d, st', rfl, k1, er.mono ok le1, e3, post.mono le1⟩
  · rw [if_neg Bool.false_ne_true]
    exact ⟨w1, env, d, st', rfl, k1, er.mono ok le1, e3, post.mono le1⟩
/-- a dict that is written out -/
def evKs (ks : List Str) (evs : Env → Store → R (List D)) (env : Env) (st : Store) : R D := R.bind (evs env st) fun ds st => if D.unds st.length ds && decide (ks.length = ds.length) && decide (ks.length ≤ 15) then
      some (.ref st.length, st ++ [.dK (mergeD [] ((ks.map Sum.inr).zip ds))]) else none
inductive PPK (X : Cx) (pos : Pos) : List Str → List (Option Expr) → List Expr → (Env → Store → R (List D)) → Prop
  | nil {evs : Env → Store → R (List D)} : (∀ env st r, evs env st = some r → r = ([], st)) → PPK X pos [] [] [] evs
  | cons {k : Str} {ks : List Str} {j : Nat} {p : Pos} {keys : List (Option Expr)} {v : Expr} {values : List Expr} {ev : Env → Store → R D} {evr evs : Env → Store → R (List D)} : PE X v (SemE X.K ev) → PPK X pos ks keys values evr →
      (∀ env st r, evs env st = some r → ∃ d st1 ds st2, ev env st = some (d, st1) ∧ evr env st1 = some (ds, st2) ∧ r = (d :: ds, st2)) → PPK X pos (k :: ks) (some (.Constant (.str k) j p) :: keys) (v :: values) evs
theorem ppk_ok {ks : List Str} {keys : List (Option Expr)} {values : List Expr} {evs : Env → Store → R (List D)} (h : PPK X pos ks keys values evs) : ∃ trs, PPs X pos keys values trs ∧ keys.all (·.isSome) = true ∧ keys.length = values.length ∧ keys.length = ks.length ∧
    ∀ (w : Wd) (env : Env) (σ : L2.St) (ds : List D) (st' : Store) (Q : List (V × V) → Hp → Prop), Ok X.K w → EnvR X.K w env σ → evs env w.st = some (ds, st') → ds.length = ks.length →
      (∀ w' vs, Ok X.K w' → Le w w' → w'.st = st' → Rps X.K w' ds vs → Q ((ks.map V.str).zip vs) w'.H) → tPairs trs σ w.H Q := by
  induction h with
  | nil h0 =>
    refine ⟨[], pps_nil, rfl, rfl, rfl, fun w env σ ds st' Q ok er e0 hl q => ?_⟩
    cases h0 _ _ _ e0
    exact q w [] ok (Le.refl _) rfl .nil
  | @cons k ks j p keys v values ev evr evs hv hr h0 ih =>
    obtain ⟨trs, t1, t2, t3, t4, t5⟩ := ih
    refine ⟨(tC (.str k), SemE X.K ev) :: trs, pps_cons pe_str hv t1, ?_, ?_, ?_, fun w env σ ds st' Q ok er e0 hl q => ?_⟩
    · rw [List.all_cons, t2]; rfl
    · rw [List.length_cons, List.length_cons, t3]
    · rw [List.length_cons, List.length_cons, t4]
    · obtain ⟨d, st1, ds', st2, e1, e2, e3⟩ := h0 _ _ _ e0
      cases e3
      refine ⟨w, env, d, st1, rfl, ok, er, e1, fun w1 x k1 le1 es1 r1 => ?_⟩
      refine t5 w1 env σ ds' _ _ k1 (er.mono ok le1) (by rw [es1]; exact e2) (by simpa using hl) fun w2 vs k2 le2 es2 r2 => ?_
      exact q w2 (x :: vs) k2 (le1.trans le2) es2 (.cons (r1.mono k1 le2) r2)
theorem zip_map {ks : List Str} {vs : List V} (h : ks.length = vs.length) : (ks.map V.str).zip vs = (((ks.map Sum.inr).zip vs : List (L2.Key × V))).map fun kv => (kV kv.1, kv.2) := by
  induction ks generalizing vs with
  | nil => rfl
  | cons k ks ih =>
    cases vs with
    | nil => rfl
    | cons v vs =>
      simp only [List.map_cons, List.zip_cons_cons, ih (by simpa using h)]
      rfl
theorem sE_ndic {ks : List Str} {keys : List (Option Expr)} {values : List Expr} {evs : Env → Store → R (List D)} (h : PPK X pos ks keys values evs) (h' : ∀ env st r, ev' env st = some r → evKs ks evs env st = some r) : PE X (.Dict keys values pos) (SemE X.K ev') := by
  have open_ : ∀ env st r, ev' env st = some r → ∃ ds st1, evs env st = some (ds, st1) ∧ D.unds st1.length ds = true ∧ ks.length = ds.length ∧ ks.length ≤ 15 ∧ r = (.ref st1.length, st1 ++ [.dK (mergeD [] ((ks.map Sum.inr).zip ds))]) := fun env st r e => by
    obtain ⟨ds, st1, e1, e2⟩ := bind_some (h' _ _ _ e)
    split at e2
    · rename_i hc
      simp only [Bool.and_eq_true, decide_eq_true_eq] at hc
      cases e2
      exact ⟨ds, st1, e1, hc.1.1, hc.1.2, hc.2, rfl⟩
    · cases e2
  obtain ⟨trs, t1, t2, t3, t4, t5⟩ := ppk_ok h
  by_cases h0 : keys = []
  · cases h with
    | nil hn =>
      refine peTo pe_dnewK fun σ H Q ⟨w, env, d, st', hH, ok, er, e0, post⟩ p hp => ?_
      obtain ⟨ds, st1, e1, hu, hl, _, e2⟩ := open_ _ _ _ e0
      cases hn _ _ _ e1
      cases e2
      subst hH
      exact post.newK (ds := []) (vs := []) ok hp ⟨rfl, .nil⟩ rfl
    | cons => cases h0
  · have run : ∀ (h15 : keys.length ≤ 15), PE X (.Dict keys values pos) (SemE X.K ev') := fun h15 => by
      refine peTo (pe_disp t1 t2 t3 h0 h15) fun σ H Q ⟨w, env, d, st', hH, ok, er, e0, post⟩ p hp => ?_
      obtain ⟨ds, st1, e1, hu, hl, h15', e2⟩ := open_ _ _ _ e0
      cases e2
      subst hH
      have kh : Ok X.K (w.hide p (.dK [])) := ok.hide hp trivial
      refine t5 (w.hide p (.dK [])) env σ ds st1 _ kh (er.mono ok (ok.le_hide hp)) e1 hl.symm fun w1 vs k1 le1 es1 r1 => ?_
      have hid := le1.hd p (.inl rfl)
      have hD : w1.H p = some (.dK []) := hid.2.trans upd_same
      refine ⟨hD, (ks.map Sum.inr).zip vs, zip_map (by rw [hl, r1.length]), ?_, ?_⟩
      · rw [List.length_zip, List.length_map, r1.length, ← hl]; omega
      · subst es1
        have le01 : Le w w1 := (ok.le_hide hp).trans le1
        have rk : RpK X.K w1 ((ks.map Sum.inr).zip ds) ((ks.map Sum.inr).zip vs) := by
          have hv := r1.length
          refine ⟨?_, ?_⟩
          · rw [List.map_fst_zip (by rw [List.length_map]; omega), List.map_fst_zip (by rw [List.length_map]; omega)]
          · rw [List.map_snd_zip (by rw [List.length_map]; omega), List.map_snd_zip (by rw [List.length_map]; omega)]
            exact r1
        have rm : RpK X.K w1 (mergeD [] ((ks.map Sum.inr).zip ds)) (mergeK [] ((ks.map Sum.inr).zip vs)) := RpK.merge ⟨rfl, .nil⟩ rk
        have um : D.unds w1.st.length ((mergeD [] ((ks.map Sum.inr).zip ds)).map (·.2)) = true := unds_of_sub hu fun y hy => by
          rcases mergeD_sub y hy with z | z
          · cases z
          · rwa [List.map_snd_zip (by rw [List.length_map]; omega)] at z
        have ka : Ok X.K (w1.app p (.dK (mergeK [] ((ks.map Sum.inr).zip vs)))) := k1.app hid.1 trivial
        have la : Le w (w1.app p (.dK (mergeK [] ((ks.map Sum.inr).zip vs)))) := Le.app ok hp le01
        have ra : RpK X.K (w1.app p (.dK (mergeK [] ((ks.map Sum.inr).zip vs)))) (mergeD [] ((ks.map Sum.inr).zip ds)) (mergeK [] ((ks.map Sum.inr).zip vs)) := ⟨rm.1, rm.2.app k1 hid.1⟩
        have ko := Ok.ownedK ok hp ka la hid.1 upd_same ra um
        have r0 : Rp X.K ((w1.app p (.dK (mergeK [] ((ks.map Sum.inr).zip vs)))).owned w p (.dK (mergeD [] ((ks.map Sum.inr).zip ds)))) (.ref w1.st.length) (.ref (((w1.app p (.dK (mergeK [] ((ks.map Sum.inr).zip vs)))).owned w p (.dK (mergeD [] ((ks.map Sum.inr).zip ds)))).io w1.st.length)) := .ref (by show _ < (w1.st ++ [_]).length; simp)
        rw [show ((w1.app p (.dK (mergeK [] ((ks.map Sum.inr).zip vs)))).owned w p (.dK (mergeD [] ((ks.map Sum.inr).zip ds)))).io w1.st.length = p from owned_at] at r0
        exact post _ (.ref p) ko (la.owned hid.1) rfl r0
    by_cases h15 : keys.length ≤ 15
    · exact run h15
    · refine peTo (t := fun _ _ _ => False) ⟨fun _ _ _ _ _ _ z => False.elim z⟩ fun σ H Q ⟨w, env, d, st', hH, ok, er, e0, post⟩ => ?_
      obtain ⟨ds, st1, e1, hu, hl, h15', e2⟩ := open_ _ _ _ e0
      omega
end
end Kw

set_option Elab.async false
set_option linter.all false
set_option maxRecDepth 100000
set_option maxHeartbeats 2000000
/-! Kw: the expressions are sound. -/
namespace Kw
open PySem PySem.Spec PyProof.Rows L2

theorem bind_of {α β : Type} {x : R α} {f : α → Store → R β} {a : α} {st : Store} (h : x = some (a, st)) : R.bind x f = f a st := by rw [h]; rfl
theorem evEs_len {cf : CF} : ∀ {es : List E} {env : Env} {st : Store} {ds : List D} {st' : Store}, evEs cf es env st = some (ds, st') → ds.length = es.length
  | [], env, st, ds, st', h => by
    rw [evEs] at h
    cases h
    rfl
  | e :: es, env, st, ds, st', h => by
    rw [evEs] at h
    obtain ⟨d, st1, e1, e2⟩ := bind_some h
    obtain ⟨ds', st2, e3, e4⟩ := bind_some e2
    cases e4
    rw [List.length_cons, List.length_cons, evEs_len e3]
/-- the test of a term -/
def evT (cf : CF) (e : E) (env : Env) (st : Store) : R Bool := R.bind (evE cf e env st) fun x st => x.truth.map fun b => (b, st)
theorem evT_some {cf : CF} {e : E} {env : Env} {st : Store} {r : Bool × Store} (h : evT cf e env st = some r) : ∃ d, evE cf e env st = some (d, r.2) ∧ d.truth = some r.1 := by
  obtain ⟨d, st1, e1, e2⟩ := bind_some h
  obtain ⟨b, e3, e4⟩ := map_some e2
  cases e4
  exact ⟨d, e1, e3⟩
theorem evT_bl {cf : CF} {e : E} {env : Env} {st st1 : Store} {b : Bool} (h : evE cf e env st = some (.bl b, st1)) : evT cf e env st = some (b, st1) := by
  unfold evT
  rw [h]
  rfl
theorem evAnd_cons {cf : CF} {e e2 : E} {es : List E} {env : Env} {st : Store} : evAnd cf (e :: e2 :: es) env st = R.bind (evE cf e env st) fun x st => match x with
      | .bl true => evAnd cf (e2 :: es) env st
      | .bl false => some (.bl false, st)
      | _ => none := by rw [evAnd] <;> rfl
theorem evOr_cons {cf : CF} {e e2 : E} {es : List E} {env : Env} {st : Store} : evOr cf (e :: e2 :: es) env st = R.bind (evE cf e env st) fun x st => match x with
      | .bl false => evOr cf (e2 :: es) env st
      | .bl true => some (.bl true, st)
      | _ => none := by rw [evOr] <;> rfl
theorem evAnd_inv {cf : CF} {e e2 : E} {es : List E} {env : Env} {st : Store} {r : D × Store} (h : evAnd cf (e :: e2 :: es) env st = some r) : ∃ b st1, evE cf e env st = some (.bl b, st1) ∧ ((b = true ∧ evAnd cf (e2 :: es) env st1 = some r) ∨ (b = false ∧ r = (.bl false, st1))) := by
  rw [evAnd_cons] at h
  obtain ⟨x, st1, e1, e2⟩ := bind_some h
  split at e2
  · exact ⟨true, st1, e1, .inl ⟨rfl, e2⟩⟩
  · cases e2
    exact ⟨false, _, e1, .inr ⟨rfl, rfl⟩⟩
  · cases e2
theorem evOr_inv {cf : CF} {e e2 : E} {es : List E} {env : Env} {st : Store} {r : D × Store} (h : evOr cf (e :: e2 :: es) env st = some r) : ∃ b st1, evE cf e env st = some (.bl b, st1) ∧ ((b = false ∧ evOr cf (e2 :: es) env st1 = some r) ∨ (b = true ∧ r = (.bl true, st1))) := by
  rw [evOr_cons] at h
  obtain ⟨x, st1, e1, e2⟩ := bind_some h
  split at e2
  · exact ⟨false, st1, e1, .inl ⟨rfl, e2⟩⟩
  · cases e2
    exact ⟨true, _, e1, .inr ⟨rfl, rfl⟩⟩
  · cases e2
def evAT (cf : CF) (es : List E) (env : Env) (st : Store) : R Bool := R.bind (evAnd cf es env st) fun x st => x.truth.map fun b => (b, st)
def evOT (cf : CF) (es : List E) (env : Env) (st : Store) : R Bool := R.bind (evOr cf es env st) fun x st => x.truth.map fun b => (b, st)
theorem cmp_inv {cf : CF} {op : CmpOp} {a b : E} {env : Env} {st : Store} {r : D × Store} (h : evE cf (.cmp op a b) env st = some r) : ∃ x st1 y st2 z, evE cf a env st = some (x, st1) ∧ evE cf b env st1 = some (y, st2) ∧ cmpD op st2 x y = some z ∧ r = (.bl z, st2) := by
  rw [evE] at h
  obtain ⟨x, st1, e1, e2⟩ := bind_some h
  obtain ⟨y, st2, e3, e4⟩ := bind_some e2
  obtain ⟨z, e5, e6⟩ := map_some e4
  exact ⟨x, st1, y, st2, z, e1, e3, e5, e6.symm⟩
theorem cmp2_inv {cf : CF} {op op' : CmpOp} {a b c : E} {env : Env} {st : Store} {r : D × Store} (h : evE cf (.cmp2 op op' a b c) env st = some r) : ∃ x st1 y st2 z, evE cf a env st = some (x, st1) ∧ evE cf b env st1 = some (y, st2) ∧ cmpD op st2 x y = some z ∧
    ((z = false ∧ r = (.bl false, st2)) ∨ (z = true ∧ ∃ u st3 w, evE cf c env st2 = some (u, st3) ∧ cmpD op' st3 y u = some w ∧ r = (.bl w, st3))) := by
  rw [evE] at h
  obtain ⟨x, st1, e1, e2⟩ := bind_some h
  obtain ⟨y, st2, e3, e4⟩ := bind_some e2
  split at e4
  · rename_i e5
    obtain ⟨u, st3, e6, e7⟩ := bind_some e4
    obtain ⟨w, e8, e9⟩ := map_some e7
    exact ⟨x, st1, y, st2, true, e1, e3, e5, .inr ⟨rfl, u, st3, w, e6, e8, e9.symm⟩⟩
  · rename_i e5
    cases e4
    exact ⟨x, st1, y, _, false, e1, e3, e5, .inl ⟨rfl, rfl⟩⟩
  · cases e4
theorem plain_test {C : Ctx} {sc : Scope} {ir : E} {e : Expr} {env : PySem.Env} (h : ckE C sc ir e = true) (h1 : ∀ a, ir ≠ .not a) (h2 : ∀ es, ir ≠ .and es) (h3 : ∀ es, ir ≠ .or es) (h4 : ∀ op a b, ir ≠ .cmp op a b) (h5 : ∀ o1 o2 a b c, ir ≠ .cmp2 o1 o2 a b c) (h6 : ∀ a b c, ir ≠ .ite a b c) (whole : Sem Value) :
    isTrue e env whole = (do let v ← whole; standAt e.pos; holding [v] (truthy v)) := by
  cases e with
  | UnaryOp op x p =>
    cases op with
    | Not =>
      cases ir with
      | not a => exact absurd rfl (h1 a)
      | bi b es => cases b <;> (simp only [ckE] at h; try (split at h <;> cases h)) <;> cases h
      | _ => simp only [ckE] at h <;> cases h
    | _ => rfl
  | BoolOp op xs p =>
    cases ir with
    | and a => exact absurd rfl (h2 a)
    | or a => exact absurd rfl (h3 a)
    | bi b es => cases b <;> (simp only [ckE] at h; try (split at h <;> cases h)) <;> cases h
    | _ => simp only [ckE] at h <;> cases h
  | Compare x ops ys p =>
    cases ir with
    | cmp a b c => exact absurd rfl (h4 a b c)
    | cmp2 a b c d e => exact absurd rfl (h5 a b c d e)
    | bi b es => cases b <;> (simp only [ckE] at h; try (split at h <;> cases h)) <;> cases h
    | _ => simp only [ckE] at h <;> cases h
  | IfExp a b c p =>
    cases ir with
    | ite a b c => exact absurd rfl (h6 a b c)
    | bi b es => cases b <;> (simp only [ckE] at h; try (split at h <;> cases h)) <;> cases h
    | _ => simp only [ckE] at h <;> cases h
  | _ => rfl
theorem own_mem {C : Ctx} {own : List Nat} {g : G} (h1 : (ownP C own).map (·.2) = own) (h2 : g.slots.all (fun i => decide (i ∈ own)) = true) : ∀ i ∈ g.slots, i ∈ own := fun i hi => of_decide_eq_true (List.all_eq_true.mp h2 i hi)
theorem tup_of {tg : Expr} (h : isTup tg = true) : ∃ es k p, tg = .Tuple es k p := by
  cases tg with
  | Tuple es k p => exact ⟨es, k, p, rfl⟩
  | _ => cases h
section
variable (C : Ctx) (cf : CF)
mutual
theorem sndE : ∀ (ir : E) (sc : Scope) (X : Cx) (e : Expr), Gd C cf sc X → ckE C sc ir e = true → PE X e (SemE X.K (evE cf ir))
  | .var i, sc, X, e, G, h => by
    unfold ckE at h
    split at h
    · simp only [Bool.and_eq_true, decide_eq_true_eq, Bool.not_eq_true'] at h
      obtain ⟨⟨⟨h1, h2⟩, h3⟩, h4⟩ := h
      refine sE_var (by rw [G.N]; exact h1) (by rw [G.sc]; exact vis_of h2) h3 h4 fun env st r e0 => ?_
      rw [evE] at e0
      split at e0
      · rename_i d q
        cases e0
        exact ⟨d, q, rfl⟩
      · cases e0
    · cases h
  | .con d, sc, X, e, G, h => by
    unfold ckE at h
    split at h
    · unfold ckC at h
      split at h
      · exact sE_val pe_non (fun w => .non) fun env st r e0 => by rw [evE] at e0; cases e0; rfl
      · cases beq_iff_eq.mp h
        exact sE_val pe_bl (fun w => .bl _) fun env st r e0 => by rw [evE] at e0; cases e0; rfl
      · cases beq_iff_eq.mp h
        exact sE_val pe_int (fun w => .int _) fun env st r e0 => by rw [evE] at e0; cases e0; rfl
      · cases of_decide_eq_true h
        exact sE_val pe_str (fun w => .str _) fun env st r e0 => by rw [evE] at e0; cases e0; rfl
      · cases h
    · cases h
  | .glob x d, sc, X, e, G, h => by
    unfold ckE at h
    split at h
    · simp only [Bool.and_eq_true, decide_eq_true_eq, Bool.not_eq_true'] at h
      obtain ⟨⟨⟨h1, h2⟩, h3⟩, h4⟩ := h
      obtain ⟨u, v, q1, q2, q3⟩ := G.glob _ _ h3
      exact sE_val (pe_glob (G.gl h2) q1 q2 h4) q3 fun env st r e0 => by rw [evE] at e0; cases e0; rfl
    · cases h
  | .tup es, sc, X, e, G, h => by
    unfold ckE at h
    split at h
    · simp only [Bool.and_eq_true, decide_eq_true_eq] at h
      refine sE_tup (sndEs es sc X _ G h.1) fun env st r e0 => ?_
      rw [evE] at e0
      obtain ⟨ds, st1, e1, e2⟩ := bind_some e0
      exact ⟨ds, st1, e1, by rw [evEs_len e1]; exact h.2, (Option.some.inj e2).symm⟩
    · cases h
  | .lst es, sc, X, e, G, h => by
    unfold ckE at h
    split at h
    · simp only [Bool.and_eq_true, decide_eq_true_eq] at h
      refine sE_lst (sndEs es sc X _ G h.1) fun env st r e0 => ?_
      rw [evE] at e0
      obtain ⟨ds, st1, e1, e2⟩ := bind_some e0
      exact ⟨ds, st1, e1, by rw [evEs_len e1]; exact h.2, (Option.some.inj e2).symm⟩
    · cases h
  | .nlst es, sc, X, e, G, h => by
    unfold ckE at h
    split at h
    · simp only [Bool.and_eq_true, decide_eq_true_eq] at h
      refine sE_nlst (sndEs es sc X _ G h.1) fun env st r e0 => ?_
      rw [evE] at e0
      obtain ⟨ds, st1, e1, e2⟩ := bind_some e0
      split at e2
      · rename_i hu
        exact ⟨ds, st1, e1, by rw [evEs_len e1]; exact h.2, hu, (Option.some.inj e2).symm⟩
      · cases e2
    · cases h
  | .ndic ks es, sc, X, e, G, h => by
    unfold ckE at h
    split at h
    · simp only [Bool.and_eq_true, decide_eq_true_eq] at h
      refine sE_ndic (sndKs es ks sc X _ _ _ G h.1) fun env st r e0 => ?_
      rw [evE] at e0
      exact e0
    · cases h
  | .bin op a b, sc, X, e, G, h => by
    unfold ckE at h
    split at h
    · simp only [Bool.and_eq_true, decide_eq_true_eq] at h
      obtain ⟨⟨rfl, h2⟩, h3⟩ := h
      refine sE_bin (sndE a sc X _ G h2) (sndE b sc X _ G h3) fun env st r e0 => ?_
      rw [evE] at e0
      obtain ⟨x, st1, e1, e2⟩ := bind_some e0
      obtain ⟨y, st2, e3, e4⟩ := bind_some e2
      obtain ⟨z, e5, e6⟩ := map_some e4
      exact ⟨x, st1, y, st2, z, e1, e3, e5, e6.symm⟩
    · cases h
  | .neg a, sc, X, e, G, h => by
    unfold ckE at h
    split at h
    · refine sE_un (g := fun i => -i) un_neg (sndE a sc X _ G h) fun env st r e0 => ?_
      rw [evE] at e0
      obtain ⟨x, st1, e1, e2⟩ := bind_some e0
      split at e2
      · exact ⟨_, st1, e1, (Option.some.inj e2).symm⟩
      · cases e2
    · cases h
  | .inv a, sc, X, e, G, h => by
    unfold ckE at h
    split at h
    · refine sE_un (g := fun i => Builtin.bitNot i) un_inv (sndE a sc X _ G h) fun env st r e0 => ?_
      rw [evE] at e0
      obtain ⟨x, st1, e1, e2⟩ := bind_some e0
      split at e2
      · exact ⟨_, st1, e1, (Option.some.inj e2).symm⟩
      · cases e2
    · cases h
  | .cmp op a b, sc, X, e, G, h => by
    unfold ckE at h
    split at h
    · simp only [Bool.and_eq_true, decide_eq_true_eq, Bool.not_eq_true'] at h
      obtain ⟨⟨⟨rfl, h2⟩, h3⟩, h4⟩ := h
      refine sE_cmp (by have := G.calm.units; omega) h2 (sndE a sc X _ G h3) (sndE b sc X _ G h4) fun env st r e0 => ?_
      obtain ⟨x, st1, y, st2, z, e1, e3, e5, e6⟩ := cmp_inv e0
      exact ⟨x, st1, y, st2, .bl z, e1, e3, by rw [e5]; rfl, e6⟩
    · cases h
  | .cmp2 op op1 a b c, sc, X, e, G, h => by
    unfold ckE at h
    split at h
    · simp only [Bool.and_eq_true, decide_eq_true_eq, Bool.not_eq_true'] at h
      obtain ⟨⟨⟨⟨⟨rfl, rfl⟩, h2⟩, h3⟩, h4⟩, h5⟩ := h
      exact sE_chain (by have := G.calm.units; omega) h2 (sndE a sc X _ G h3) (sndE b sc X _ G h4) (sndE c sc X _ G h5) fun env st r e0 => cmp2_inv e0
    · cases h
  | .and es, sc, X, e, G, h => by
    unfold ckE at h
    split at h
    · simp only [Bool.and_eq_true, Bool.not_eq_true'] at h
      exact peTo (sndAnd es sc X _ _ G h.1 h.2) fun σ H Q z => z
    · cases h
  | .or es, sc, X, e, G, h => by
    unfold ckE at h
    split at h
    · simp only [Bool.and_eq_true, Bool.not_eq_true'] at h
      exact peTo (sndOr es sc X _ _ G h.1 h.2) fun σ H Q z => z
    · cases h
  | .not a, sc, X, e, G, h => by
    unfold ckE at h
    split at h
    · refine sE_not (sndE a sc X _ G h) fun env st r e0 => ?_
      rw [evE] at e0
      obtain ⟨x, st1, e1, e2⟩ := bind_some e0
      obtain ⟨b, e3, e4⟩ := map_some e2
      exact ⟨x, st1, b, e1, e3, e4.symm⟩
    · cases h
  | .ite c a b, sc, X, e, G, h => by
    unfold ckE at h
    split at h
    · simp only [Bool.and_eq_true] at h
      obtain ⟨⟨⟨h1, h2⟩, h3⟩, h4⟩ := h
      refine sE_ite (sndT c sc X _ G h1 h2) (sndE a sc X _ G h3) (sndE b sc X _ G h4) fun env st r e0 => ?_
      rw [evE] at e0
      obtain ⟨x, st1, e1, e2⟩ := bind_some e0
      split at e2
      · rename_i q
        exact ⟨true, st1, by unfold evT; rw [e1]; show x.truth.map _ = _; rw [q]; rfl, .inl ⟨rfl, e2⟩⟩
      · rename_i q
        exact ⟨false, st1, by unfold evT; rw [e1]; show x.truth.map _ = _; rw [q]; rfl, .inr ⟨rfl, e2⟩⟩
      · cases e2
    · cases h
  | .ix a b, sc, X, e, G, h => by
    unfold ckE at h
    split at h
    · simp only [Bool.and_eq_true] at h
      refine sE_ix (by have := G.calm.units; omega) (ck_ix h.2) (sndE a sc X _ G h.1) (sndE b sc X _ G h.2) fun env st r e0 => ?_
      rw [evE] at e0
      obtain ⟨x, st1, e1, e2⟩ := bind_some e0
      obtain ⟨y, st2, e3, e4⟩ := bind_some e2
      obtain ⟨z, e5, e6⟩ := map_some e4
      exact ⟨x, st1, y, st2, z, e1, e3, e5, e6.symm⟩
    · cases h
  | .sl a lo hi, sc, X, e, G, h => by
    unfold ckE at h
    split at h
    · simp only [Bool.and_eq_true] at h
      refine sE_sl (sndE a sc X _ G h.1.1) (sndO lo sc X _ G h.1.2) (sndO hi sc X _ G h.2) fun env st r e0 => ?_
      rw [evE] at e0
      obtain ⟨x, st1, e1, e2⟩ := bind_some e0
      obtain ⟨l, st2, e3, e4⟩ := bind_some e2
      obtain ⟨u, st3, e5, e6⟩ := bind_some e4
      obtain ⟨z, e7, e8⟩ := map_some e6
      exact ⟨x, st1, l, st2, u, st3, z, e1, e3, e5, e7, e8.symm⟩
    · cases h
  | .rev a, sc, X, e, G, h => by
    unfold ckE at h
    split at h
    · refine sE_rev (sndE a sc X _ G h) fun env st r e0 => ?_
      rw [evE] at e0
      obtain ⟨x, st1, e1, e2⟩ := bind_some e0
      split at e2
      · rename_i q
        exact ⟨x, st1, _, e1, q, (Option.some.inj e2).symm⟩
      · cases e2
    · cases h
  | .call f es, sc, X, e, G, h => by
    unfold ckE at h
    split at h
    · simp only [Bool.and_eq_true, decide_eq_true_eq, Bool.not_eq_true'] at h
      obtain ⟨⟨⟨h1, h2⟩, h3⟩, h4⟩ := h
      obtain ⟨k, a, fd, ps, q1, q2, q3, q4, q5⟩ := G.call _ _ h1
      cases es with
      | nil => simp [ckEs] at h4
      | cons e0 es0 =>
        have h5 := h4
        rw [ckEs, Bool.and_eq_true] at h5
        refine peTo (pe_callG q5 q4 G.calm.guards (G.gl h2) q1 q2 q3 (sndEs (e0 :: es0) sc X _ G h4) h3 (ck_star h5.1 _ _) (by rw [ck_stars h5.2]; exact back_any)) fun σ H Q z => args_ok z fun env st r e0 => ?_
        rw [evE] at e0
        exact bind_some e0 |>.elim fun ds ⟨st1, e1, e2⟩ => ⟨ds, st1, e1, e2⟩
    · cases h
  | .bi b es, sc, X, e, G, h => by
    by_cases hb : ∃ T, b = .isinst T
    · obtain ⟨T, rfl⟩ := hb
      unfold ckE at h
      dsimp only at h
      split at h
      · rename_i a x p1 y t p2 p3
        simp only [Bool.and_eq_true, decide_eq_true_eq] at h
        obtain ⟨⟨⟨⟨⟨rfl, h2⟩, h3⟩, rfl⟩, h4⟩, h5⟩ := h
        obtain ⟨b1, b2, b3, b4⟩ := boot_cls h3
        have hT : PE X (.Name (T : Str) p2) (tC (.ty T)) := pe_bltn (G.gl h4) (G.blt _ b2) b1 rfl b3 b4
        have ha : PA X [y, .Name (T : Str) p2] (tCons (SemE X.K (evE cf a)) (tCons (tC (.ty T)) tNil)) := pa_cons (sndE a sc X _ G h5) (pa_cons hT pa_nil rfl) (ck_star h5 _ _)
        refine peTo (pe_bi (b := .isinst T) (isi_ok h3) G (G.gl h2) ha (ck_star h5 _ _) rfl) fun σ H Q ⟨w, env, d, st', hH, ok, er, e0, post⟩ => ?_
        rw [evE] at e0
        obtain ⟨ds, st1, e1, e2⟩ := bind_some e0
        rw [evEs] at e1
        obtain ⟨x, st2, e3, e4⟩ := bind_some e1
        rw [evEs] at e4
        cases e4
        obtain ⟨c, e5, e6⟩ := map_some (show (isT T x).map (fun b => (D.bl b, _)) = _ from e2)
        cases e6
        refine ⟨w, env, x, _, hH, ok, er, e3, fun w1 v k1 le1 es1 r1 => ?_⟩
        subst es1
        exact ⟨w1, x, v, c, rfl, k1, r1, rfl, e5, (post.mono le1).same k1 (.bl _)⟩
      · cases h
    · have hb' : ∀ T, b ≠ .isinst T := fun T z => hb ⟨T, z⟩
      have h' : ∃ x p y ys pos, e = .Call (.Name x p) (y :: ys) [] pos ∧ x = b.name ∧ glB sc x = true ∧ ckEs C sc es (y :: ys) = true := by
        cases b with
        | isinst T => exact absurd rfl (hb' T)
        | _ =>
          simp only [ckE] at h
          split at h
          · simp only [Bool.and_eq_true, decide_eq_true_eq] at h
            exact ⟨_, _, _, _, _, rfl, h.1.1, h.1.2, h.2⟩
          · cases h
      obtain ⟨x, p, y, ys, pos, rfl, rfl, h2, h4⟩ := h'
      cases es with
      | nil => simp [ckEs] at h4
      | cons e0 es0 =>
        have h5 := h4
        rw [ckEs, Bool.and_eq_true] at h5
        refine peTo (pe_bi (bi_ok G.calm b hb') G (G.gl h2) (sndEs (e0 :: es0) sc X _ G h4) (ck_star h5.1 _ _) (by rw [ck_stars h5.2]; exact back_any)) fun σ H Q z => args_ok z fun env st r e0 => ?_
        rw [evE] at e0
        exact bind_some e0 |>.elim fun ds ⟨st1, e1, e2⟩ => ⟨ds, st1, e1, e2⟩
  | .mt m o es, sc, X, e, G, h => by
    unfold ckE at h
    split at h
    · simp only [Bool.and_eq_true, decide_eq_true_eq] at h
      obtain ⟨⟨⟨⟨rfl, h2⟩, h3⟩, h4⟩, h5⟩ := h
      refine sE_mt G.calm (ck_base h4 _ _ _) h2 (sndE o sc X _ G h4) (sndEs es sc X _ G h5) (ck_stars h5) (fun a as ea => ?_) h3 (fun ea env st r e0 => ?_) fun env st r e0 => ?_
      · subst ea
        cases es with
        | nil => simp [ckEs] at h5
        | cons e0 es0 =>
          rw [ckEs, Bool.and_eq_true] at h5
          exact ⟨ck_star h5.1 _ _, ck_stars h5.2⟩
      · subst ea
        cases es with
        | nil =>
          rw [evEs] at e0
          exact (Option.some.inj e0).symm
        | cons e0 es0 => simp [ckEs] at h5
      · rw [evE] at e0
        obtain ⟨x, st1, e1, e2⟩ := bind_some e0
        split at e2
        · rename_i hm
          obtain ⟨ds, st2, e3, e4⟩ := bind_some e2
          exact ⟨x, st1, ds, st2, e1, hm, e3, e4⟩
        · cases e2
    · cases h
  | .kget x t k d, sc, X, e, G, h => by
    unfold ckE at h
    split at h
    · simp only [Bool.and_eq_true, decide_eq_true_eq, Bool.not_eq_true'] at h
      obtain ⟨⟨⟨⟨⟨⟨⟨rfl, rfl⟩, h3⟩, h4⟩, h5⟩, h6⟩, h7⟩, h8⟩ := h
      obtain ⟨a, q1, q2⟩ := G.dic _ _ h5
      have ha := pa_cons (sndE k sc X _ G h7) (pa_cons (sndE d sc X _ G h8) pa_nil (ck_star h8 _ _)) (ck_star h7 _ _)
      refine peTo (pe_kg q2 (G.gl h3) q1 h4 ha ?_ h6 (ck_star h7 _ _) ?_) fun σ H Q ⟨w, env, z, st', hH, ok, er, e0, post⟩ => ?_
      · rw [ck_star h7, ck_star h8]; rfl
      · rw [ck_star h8]; rfl
      · rw [evE] at e0
        obtain ⟨y, st1, e1, e2⟩ := bind_some e0
        obtain ⟨u, st2, e3, e4⟩ := bind_some e2
        split at e4
        · rename_i s
          cases e4
          refine ⟨w, env, _, st1, hH, ok, er, e1, fun w1 v k1 le1 es1 r1 => ⟨w1, env, u, _, rfl, k1, er.mono ok le1, by rw [es1]; exact e3, fun w2 v2 k2 le2 es2 r2 => ?_⟩⟩
          cases r1
          subst es2
          exact ⟨w2, s, u, v2, rfl, k2, rfl, rfl, r2, post.mono (le1.trans le2)⟩
        · cases e4
    · cases h
  | .lc mu elt g it c own, sc, X, e, G, h => by
    unfold ckE at h
    split at h
    · rename_i e' tg iter ifs scope pos
      simp only [Bool.and_eq_true, decide_eq_true_eq] at h
      obtain ⟨⟨⟨⟨⟨⟨h1, h2⟩, h3⟩, h4⟩, h5⟩, h6⟩, h7⟩ := h
      obtain ⟨i1, i2⟩ := sndI it sc X _ tg G h1
      have ok : BlkOk X.N X.env.scope scope (ownP C own) := by
        rw [G.N, G.sc]
        exact blkOk_by h3
      have q := pe_lc (X := X) (pos := pos) (te := SemE X.K (evE cf elt)) (tt := SemT X.K (evC cf c)) (g := gK X.K g) G.calm.calm (by rw [G.N]; exact G.nd) i1 ok
        (fun s H A cl fp => pgG (fn := fun x => scope.names.lookup x == some .cell) (G.blk s H scope A cl fp) (fun x z => z) h5)
        (fun s H A cl fp => sndIf c _ _ _ (G.blk s H scope A cl fp) h6)
        (fun s H A cl fp => sndE elt _ _ _ (G.blk s H scope A cl fp) h7) i2
      rw [h2] at q
      refine peTo q fun σ H Q z => lc_ok (mu := mu) (own_mem h2 h4) σ H Q ?_
      obtain ⟨w, env, d, st', hH, ok, er, e0, post⟩ := z
      rw [evE] at e0
      exact ⟨w, env, d, st', hH, ok, er, e0, post⟩
    · cases h
theorem sndT : ∀ (ir : E) (sc : Scope) (X : Cx) (e : Expr), Gd C cf sc X → ckE C sc ir e = true → ir.tOk = true → PT X e (SemT X.K (evT cf ir))
  | .cmp op a b, sc, X, e, G, h, ht => by
    unfold ckE at h
    split at h
    · simp only [Bool.and_eq_true, decide_eq_true_eq, Bool.not_eq_true'] at h
      obtain ⟨⟨⟨rfl, h2⟩, h3⟩, h4⟩ := h
      refine sT_cmp (by have := G.calm.units; omega) h2 (sndE a sc X _ G h3) (sndE b sc X _ G h4) fun env st r e0 => ?_
      obtain ⟨b, st'⟩ := r
      obtain ⟨d, q1, q2⟩ := evT_some e0
      obtain ⟨x, st1, y, st2, z, e1, e3, e5, e6⟩ := cmp_inv q1
      cases e6
      cases q2
      exact ⟨x, st1, y, _, _, e1, e3, e5, rfl⟩
    · cases h
  | .cmp2 op op1 a b c, sc, X, e, G, h, ht => by
    unfold ckE at h
    split at h
    · simp only [Bool.and_eq_true, decide_eq_true_eq, Bool.not_eq_true'] at h
      obtain ⟨⟨⟨⟨⟨rfl, rfl⟩, h2⟩, h3⟩, h4⟩, h5⟩ := h
      refine sT_chain (ev' := evE cf (.cmp2 op op1 a b c)) (by have := G.calm.units; omega) h2 (sndE a sc X _ G h3) (sndE b sc X _ G h4) (sndE c sc X _ G h5) (fun env st r e0 => ?_) fun env st r e0 => cmp2_inv e0
      obtain ⟨b, st'⟩ := r
      obtain ⟨d, e1, e2⟩ := evT_some e0
      rw [e1]
      obtain ⟨x, st1, y, st2, z, _, _, _, e6⟩ := cmp2_inv e1
      rcases e6 with ⟨_, e6⟩ | ⟨_, u, st3, w, _, _, e6⟩ <;> (cases e6; cases e2; rfl)
    · cases h
  | .and es, sc, X, e, G, h, ht => by
    unfold ckE at h
    split at h
    · simp only [Bool.and_eq_true, Bool.not_eq_true'] at h
      rw [E.tOk] at ht
      refine ptTo (sndAndT es sc X _ _ G h.1 h.2 ht).pt fun σ H Q ⟨w, env, b, st', hH, ok, er, e0, post⟩ => ⟨w, env, b, st', hH, ok, er, ?_, post⟩
      unfold evT at e0
      rw [evE] at e0
      exact e0
    · cases h
  | .or es, sc, X, e, G, h, ht => by
    unfold ckE at h
    split at h
    · simp only [Bool.and_eq_true, Bool.not_eq_true'] at h
      rw [E.tOk] at ht
      refine ptTo (sndOrT es sc X _ _ G h.1 h.2 ht).pt fun σ H Q ⟨w, env, b, st', hH, ok, er, e0, post⟩ => ⟨w, env, b, st', hH, ok, er, ?_, post⟩
      unfold evT at e0
      rw [evE] at e0
      exact e0
    · cases h
  | .not a, sc, X, e, G, h, ht => by
    unfold ckE at h
    split at h
    · rw [E.tOk] at ht
      refine sT_not (sndT a sc X _ G h ht) fun env st r e0 => ?_
      obtain ⟨b', st'⟩ := r
      obtain ⟨d, e1, e2⟩ := evT_some e0
      rw [evE] at e1
      obtain ⟨x, st1, e3, e4⟩ := bind_some e1
      obtain ⟨b, e5, e6⟩ := map_some e4
      cases e6
      refine ⟨b, _, by unfold evT; rw [e3]; show x.truth.map _ = _; rw [e5]; rfl, ?_⟩
      cases e2
      rfl
    · cases h
  | .ite c a b, sc, X, e, G, h, ht => by
    rw [E.tOk] at ht
    cases ht
  | .var i, sc, X, e, G, h, _ => sT_val (sndE _ sc X e G h) (fun wh => plain_test h (fun _ z => nomatch z) (fun _ z => nomatch z) (fun _ z => nomatch z) (fun _ _ _ z => nomatch z) (fun _ _ _ _ _ z => nomatch z) (fun _ _ _ z => nomatch z) wh) fun env st r e0 => evT_some e0
  | .con i, sc, X, e, G, h, _ => sT_val (sndE _ sc X e G h) (fun wh => plain_test h (fun _ z => nomatch z) (fun _ z => nomatch z) (fun _ z => nomatch z) (fun _ _ _ z => nomatch z) (fun _ _ _ _ _ z => nomatch z) (fun _ _ _ z => nomatch z) wh) fun env st r e0 => evT_some e0
  | .glob _ _, sc, X, e, G, h, _ => sT_val (sndE _ sc X e G h) (fun wh => plain_test h (fun _ z => nomatch z) (fun _ z => nomatch z) (fun _ z => nomatch z) (fun _ _ _ z => nomatch z) (fun _ _ _ _ _ z => nomatch z) (fun _ _ _ z => nomatch z) wh) fun env st r e0 => evT_some e0
  | .tup _, sc, X, e, G, h, _ => sT_val (sndE _ sc X e G h) (fun wh => plain_test h (fun _ z => nomatch z) (fun _ z => nomatch z) (fun _ z => nomatch z) (fun _ _ _ z => nomatch z) (fun _ _ _ _ _ z => nomatch z) (fun _ _ _ z => nomatch z) wh) fun env st r e0 => evT_some e0
  | .lst _, sc, X, e, G, h, _ => sT_val (sndE _ sc X e G h) (fun wh => plain_test h (fun _ z => nomatch z) (fun _ z => nomatch z) (fun _ z => nomatch z) (fun _ _ _ z => nomatch z) (fun _ _ _ _ _ z => nomatch z) (fun _ _ _ z => nomatch z) wh) fun env st r e0 => evT_some e0
  | .nlst _, sc, X, e, G, h, _ => sT_val (sndE _ sc X e G h) (fun wh => plain_test h (fun _ z => nomatch z) (fun _ z => nomatch z) (fun _ z => nomatch z) (fun _ _ _ z => nomatch z) (fun _ _ _ _ _ z => nomatch z) (fun _ _ _ z => nomatch z) wh) fun env st r e0 => evT_some e0
  | .ndic _ _, sc, X, e, G, h, _ => sT_val (sndE _ sc X e G h) (fun wh => plain_test h (fun _ z => nomatch z) (fun _ z => nomatch z) (fun _ z => nomatch z) (fun _ _ _ z => nomatch z) (fun _ _ _ _ _ z => nomatch z) (fun _ _ _ z => nomatch z) wh) fun env st r e0 => evT_some e0
  | .bin _ _ _, sc, X, e, G, h, _ => sT_val (sndE _ sc X e G h) (fun wh => plain_test h (fun _ z => nomatch z) (fun _ z => nomatch z) (fun _ z => nomatch z) (fun _ _ _ z => nomatch z) (fun _ _ _ _ _ z => nomatch z) (fun _ _ _ z => nomatch z) wh) fun env st r e0 => evT_some e0
  | .neg _, sc, X, e, G, h, _ => sT_val (sndE _ sc X e G h) (fun wh => plain_test h (fun _ z => nomatch z) (fun _ z => nomatch z) (fun _ z => nomatch z) (fun _ _ _ z => nomatch z) (fun _ _ _ _ _ z => nomatch z) (fun _ _ _ z => nomatch z) wh) fun env st r e0 => evT_some e0
  | .inv _, sc, X, e, G, h, _ => sT_val (sndE _ sc X e G h) (fun wh => plain_test h (fun _ z => nomatch z) (fun _ z => nomatch z) (fun _ z => nomatch z) (fun _ _ _ z => nomatch z) (fun _ _ _ _ _ z => nomatch z) (fun _ _ _ z => nomatch z) wh) fun env st r e0 => evT_some e0
  | .ix _ _, sc, X, e, G, h, _ => sT_val (sndE _ sc X e G h) (fun wh => plain_test h (fun _ z => nomatch z) (fun _ z => nomatch z) (fun _ z => nomatch z) (fun _ _ _ z => nomatch z) (fun _ _ _ _ _ z => nomatch z) (fun _ _ _ z => nomatch z) wh) fun env st r e0 => evT_some e0
  | .sl _ _ _, sc, X, e, G, h, _ => sT_val (sndE _ sc X e G h) (fun wh => plain_test h (fun _ z => nomatch z) (fun _ z => nomatch z) (fun _ z => nomatch z) (fun _ _ _ z => nomatch z) (fun _ _ _ _ _ z => nomatch z) (fun _ _ _ z => nomatch z) wh) fun env st r e0 => evT_some e0
  | .rev _, sc, X, e, G, h, _ => sT_val (sndE _ sc X e G h) (fun wh => plain_test h (fun _ z => nomatch z) (fun _ z => nomatch z) (fun _ z => nomatch z) (fun _ _ _ z => nomatch z) (fun _ _ _ _ _ z => nomatch z) (fun _ _ _ z => nomatch z) wh) fun env st r e0 => evT_some e0
  | .call _ _, sc, X, e, G, h, _ => sT_val (sndE _ sc X e G h) (fun wh => plain_test h (fun _ z => nomatch z) (fun _ z => nomatch z) (fun _ z => nomatch z) (fun _ _ _ z => nomatch z) (fun _ _ _ _ _ z => nomatch z) (fun _ _ _ z => nomatch z) wh) fun env st r e0 => evT_some e0
  | .bi _ _, sc, X, e, G, h, _ => sT_val (sndE _ sc X e G h) (fun wh => plain_test h (fun _ z => nomatch z) (fun _ z => nomatch z) (fun _ z => nomatch z) (fun _ _ _ z => nomatch z) (fun _ _ _ _ _ z => nomatch z) (fun _ _ _ z => nomatch z) wh) fun env st r e0 => evT_some e0
  | .mt _ _ _, sc, X, e, G, h, _ => sT_val (sndE _ sc X e G h) (fun wh => plain_test h (fun _ z => nomatch z) (fun _ z => nomatch z) (fun _ z => nomatch z) (fun _ _ _ z => nomatch z) (fun _ _ _ _ _ z => nomatch z) (fun _ _ _ z => nomatch z) wh) fun env st r e0 => evT_some e0
  | .kget _ _ _ _, sc, X, e, G, h, _ => sT_val (sndE _ sc X e G h) (fun wh => plain_test h (fun _ z => nomatch z) (fun _ z => nomatch z) (fun _ z => nomatch z) (fun _ _ _ z => nomatch z) (fun _ _ _ _ _ z => nomatch z) (fun _ _ _ z => nomatch z) wh) fun env st r e0 => evT_some e0
  | .lc _ _ _ _ _ _, sc, X, e, G, h, _ => sT_val (sndE _ sc X e G h) (fun wh => plain_test h (fun _ z => nomatch z) (fun _ z => nomatch z) (fun _ z => nomatch z) (fun _ _ _ z => nomatch z) (fun _ _ _ _ _ z => nomatch z) (fun _ _ _ z => nomatch z) wh) fun env st r e0 => evT_some e0
theorem sndEs : ∀ (irs : List E) (sc : Scope) (X : Cx) (es : List Expr), Gd C cf sc X → ckEs C sc irs es = true → PA X es (SemA X.K (evEs cf irs))
  | [], sc, X, es, G, h => by
    rw [ckEs, List.isEmpty_iff] at h
    subst h
    exact sA_nil fun env st r e0 => by rw [evEs] at e0; exact (Option.some.inj e0).symm
  | ir :: irs, sc, X, [], G, h => by simp [ckEs] at h
  | ir :: irs, sc, X, e :: es, G, h => by
    rw [ckEs, Bool.and_eq_true] at h
    refine sA_cons (ck_star h.1 _ _) (sndE ir sc X e G h.1) (sndEs irs sc X es G h.2) fun env st r e0 => ?_
    rw [evEs] at e0
    obtain ⟨d, st1, e1, e2⟩ := bind_some e0
    obtain ⟨ds, st2, e3, e4⟩ := bind_some e2
    exact ⟨d, st1, ds, st2, e1, e3, (Option.some.inj e4).symm⟩
theorem sndKs : ∀ (irs : List E) (ks : List Str) (sc : Scope) (X : Cx) (keys : List (Option Expr)) (values : List Expr) (pos : Pos), Gd C cf sc X → ckKs C sc ks irs keys values = true → PPK X pos ks keys values (evEs cf irs)
  | [], ks, sc, X, keys, values, pos, G, h => by
    rw [ckKs] at h
    simp only [Bool.and_eq_true, List.isEmpty_iff] at h
    obtain ⟨⟨rfl, rfl⟩, rfl⟩ := h
    exact .nil fun env st r e0 => by rw [evEs] at e0; exact (Option.some.inj e0).symm
  | ir :: irs, ks, sc, X, keys, values, pos, G, h => by
    unfold ckKs at h
    split at h
    · simp only [Bool.and_eq_true, decide_eq_true_eq] at h
      obtain ⟨⟨rfl, h2⟩, h3⟩ := h
      refine .cons (sndE ir sc X _ G h2) (sndKs irs _ sc X _ _ pos G h3) fun env st r e0 => ?_
      rw [evEs] at e0
      obtain ⟨d, st1, e1, e2⟩ := bind_some e0
      obtain ⟨ds, st2, e3, e4⟩ := bind_some e2
      exact ⟨d, st1, ds, st2, e1, e3, (Option.some.inj e4).symm⟩
    · cases h
theorem sndAnd : ∀ (irs : List E) (sc : Scope) (X : Cx) (es : List Expr) (pos : Pos), Gd C cf sc X → ckEs C sc irs es = true → irs.isEmpty = false → PE X (.BoolOp .And es pos) (SemE X.K (evE cf (.and irs)))
  | [], sc, X, es, pos, G, h, hn => by cases hn
  | ir :: irs, sc, X, [], pos, G, h, hn => by simp [ckEs] at h
  | [ir], sc, X, [e], pos, G, h, hn => by
    rw [ckEs, Bool.and_eq_true] at h
    refine peTo (pe_one (sndE ir sc X e G h.1)) fun σ H Q ⟨w, env, d, st', hH, ok, er, e0, post⟩ => ⟨w, env, d, st', hH, ok, er, ?_, post⟩
    rw [evE, evAnd] at e0
    exact e0
  | [ir], sc, X, e :: e2 :: es, pos, G, h, hn => by simp [ckEs] at h
  | ir :: ir2 :: irs, sc, X, [e], pos, G, h, hn => by simp [ckEs] at h
  | ir :: ir2 :: irs, sc, X, e :: e2 :: es, pos, G, h, hn => by
    have h' := h
    rw [ckEs, Bool.and_eq_true] at h'
    refine sE_and (sndE ir sc X e G h'.1) (sndAnd (ir2 :: irs) sc X (e2 :: es) pos G h'.2 rfl) fun env st r e0 => ?_
    rw [evE] at e0
    obtain ⟨b, st1, e1, e3⟩ := evAnd_inv e0
    exact ⟨b, st1, e1, e3.imp (fun z => ⟨z.1, by rw [evE]; exact z.2⟩) id⟩
theorem sndOr : ∀ (irs : List E) (sc : Scope) (X : Cx) (es : List Expr) (pos : Pos), Gd C cf sc X → ckEs C sc irs es = true → irs.isEmpty = false → PE X (.BoolOp .Or es pos) (SemE X.K (evE cf (.or irs)))
  | [], sc, X, es, pos, G, h, hn => by cases hn
  | ir :: irs, sc, X, [], pos, G, h, hn => by simp [ckEs] at h
  | [ir], sc, X, [e], pos, G, h, hn => by
    rw [ckEs, Bool.and_eq_true] at h
    refine peTo (pe_one (sndE ir sc X e G h.1)) fun σ H Q ⟨w, env, d, st', hH, ok, er, e0, post⟩ => ⟨w, env, d, st', hH, ok, er, ?_, post⟩
    rw [evE, evOr] at e0
    exact e0
  | [ir], sc, X, e :: e2 :: es, pos, G, h, hn => by simp [ckEs] at h
  | ir :: ir2 :: irs, sc, X, [e], pos, G, h, hn => by simp [ckEs] at h
  | ir :: ir2 :: irs, sc, X, e :: e2 :: es, pos, G, h, hn => by
    have h' := h
    rw [ckEs, Bool.and_eq_true] at h'
    refine sE_or (sndE ir sc X e G h'.1) (sndOr (ir2 :: irs) sc X (e2 :: es) pos G h'.2 rfl) fun env st r e0 => ?_
    rw [evE] at e0
    obtain ⟨b, st1, e1, e3⟩ := evOr_inv e0
    exact ⟨b, st1, e1, e3.imp (fun z => ⟨z.1, by rw [evE]; exact z.2⟩) id⟩
theorem sndAndT : ∀ (irs : List E) (sc : Scope) (X : Cx) (es : List Expr) (pos : Pos), Gd C cf sc X → ckEs C sc irs es = true → irs.isEmpty = false → E.tOks irs = true → PW X (.BoolOp .And es pos) (SemT X.K (evAT cf irs))
  | [], sc, X, es, pos, G, h, hn, ht => by cases hn
  | ir :: irs, sc, X, [], pos, G, h, hn, ht => by simp [ckEs] at h
  | [ir], sc, X, [e], pos, G, h, hn, ht => by
    rw [ckEs, Bool.and_eq_true] at h
    rw [E.tOks, Bool.and_eq_true] at ht
    refine pwTo (pw_and1 (sndT ir sc X e G h.1 ht.1)) fun σ H Q ⟨w, env, d, st', hH, ok, er, e0, post⟩ => ⟨w, env, d, st', hH, ok, er, ?_, post⟩
    unfold evAT at e0
    rw [evAnd] at e0
    exact e0
  | [ir], sc, X, e :: e2 :: es, pos, G, h, hn, ht => by simp [ckEs] at h
  | ir :: ir2 :: irs, sc, X, [e], pos, G, h, hn, ht => by simp [ckEs] at h
  | ir :: ir2 :: irs, sc, X, e :: e2 :: es, pos, G, h, hn, ht => by
    have h' := h
    rw [ckEs, Bool.and_eq_true] at h'
    rw [E.tOks, Bool.and_eq_true] at ht
    refine sT_and (sndT ir sc X e G h'.1 ht.1) (sndAndT (ir2 :: irs) sc X (e2 :: es) pos G h'.2 rfl ht.2) fun env st r e0 => ?_
    obtain ⟨d, st1, e1, e2⟩ := bind_some e0
    obtain ⟨c, e3, e4⟩ := map_some e2
    obtain ⟨b, st2, e5, e6⟩ := evAnd_inv e1
    refine ⟨b, st2, evT_bl e5, ?_⟩
    rcases e6 with ⟨rfl, e6⟩ | ⟨rfl, e6⟩
    · refine .inl ⟨rfl, ?_⟩
      unfold evAT
      rw [e6]
      show d.truth.map _ = _
      rw [e3, ← e4]
      rfl
    · cases e6
      cases e3
      exact .inr ⟨rfl, e4.symm⟩
theorem sndOrT : ∀ (irs : List E) (sc : Scope) (X : Cx) (es : List Expr) (pos : Pos), Gd C cf sc X → ckEs C sc irs es = true → irs.isEmpty = false → E.tOks irs = true → PW X (.BoolOp .Or es pos) (SemT X.K (evOT cf irs))
  | [], sc, X, es, pos, G, h, hn, ht => by cases hn
  | ir :: irs, sc, X, [], pos, G, h, hn, ht => by simp [ckEs] at h
  | [ir], sc, X, [e], pos, G, h, hn, ht => by
    rw [ckEs, Bool.and_eq_true] at h
    rw [E.tOks, Bool.and_eq_true] at ht
    refine pwTo (pw_or1 (sndT ir sc X e G h.1 ht.1)) fun σ H Q ⟨w, env, d, st', hH, ok, er, e0, post⟩ => ⟨w, env, d, st', hH, ok, er, ?_, post⟩
    unfold evOT at e0
    rw [evOr] at e0
    exact e0
  | [ir], sc, X, e :: e2 :: es, pos, G, h, hn, ht => by simp [ckEs] at h
  | ir :: ir2 :: irs, sc, X, [e], pos, G, h, hn, ht => by simp [ckEs] at h
  | ir :: ir2 :: irs, sc, X, e :: e2 :: es, pos, G, h, hn, ht => by
    have h' := h
    rw [ckEs, Bool.and_eq_true] at h'
    rw [E.tOks, Bool.and_eq_true] at ht
    refine sT_or (sndT ir sc X e G h'.1 ht.1) (sndOrT (ir2 :: irs) sc X (e2 :: es) pos G h'.2 rfl ht.2) fun env st r e0 => ?_
    obtain ⟨d, st1, e1, e2⟩ := bind_some e0
    obtain ⟨c, e3, e4⟩ := map_some e2
    obtain ⟨b, st2, e5, e6⟩ := evOr_inv e1
    refine ⟨b, st2, evT_bl e5, ?_⟩
    rcases e6 with ⟨rfl, e6⟩ | ⟨rfl, e6⟩
    · refine .inl ⟨rfl, ?_⟩
      unfold evOT
      rw [e6]
      show d.truth.map _ = _
      rw [e3, ← e4]
      rfl
    · cases e6
      cases e3
      exact .inr ⟨rfl, e4.symm⟩
theorem sndO : ∀ (ir : Option E) (sc : Scope) (X : Cx) (e : Option Expr), Gd C cf sc X → ckO C sc ir e = true → PO X e (SemO X.K (evO cf ir))
  | none, sc, X, e, G, h => by
    rw [ckO, Option.isNone_iff_eq_none] at h
    subst h
    exact sO_none fun env st r e0 => by rw [evO] at e0; exact (Option.some.inj e0).symm
  | some ir, sc, X, none, G, h => by simp [ckO] at h
  | some ir, sc, X, some e, G, h => by
    rw [ckO] at h
    refine sO_some (sndE ir sc X e G h) fun env st r e0 => ?_
    rw [evO] at e0
    obtain ⟨d, st1, e1, e2⟩ := bind_some e0
    split at e2
    · exact ⟨_, st1, e1, (Option.some.inj e2).symm⟩
    · cases e2
theorem sndIf : ∀ (ir : Option E) (sc : Scope) (X : Cx) (ifs : List Expr), Gd C cf sc X → ckIf C sc ir ifs = true → PTs X ifs (SemT X.K (evC cf ir))
  | none, sc, X, ifs, G, h => by
    rw [ckIf, List.isEmpty_iff] at h
    subst h
    refine ⟨fun pins s σ H Q I ⟨w, env, b, st', hH, ok, er, e0, post⟩ => pts_nil.run pins s σ H Q I ?_⟩
    rw [evC] at e0
    cases e0
    subst hH
    exact post w ok (Le.refl _) rfl
  | some ir, sc, X, ifs, G, h => by
    unfold ckIf at h
    split at h
    · rw [Bool.and_eq_true] at h
      refine pts_one (ptTo (sndT ir sc X _ G h.1 h.2) fun σ H Q ⟨w, env, b, st', hH, ok, er, e0, post⟩ => ⟨w, env, b, st', hH, ok, er, ?_, post⟩)
      rw [evC] at e0
      exact e0
    · cases h
theorem sndI : ∀ (ir : It) (sc : Scope) (X : Cx) (e tg : Expr), Gd C cf sc X → ckI C sc ir e tg = true → PI X tg e (SemI X.K (evI cf ir)) ∧ ∀ x, foldedSetIterable e X.env x = pure x
  | .seq ir, sc, X, e, tg, G, h => by
    rw [ckI] at h
    refine ⟨piTo (pi_seq (sndE ir sc X e G h)) fun σ H R ⟨w, env, ds, st', hH, ok, er, e0, q⟩ => ⟨w, env, ds, st', hH, ok, er, ?_, q⟩, ck_set h _⟩
    rw [evI] at e0
    exact e0
  | .rng ir, sc, X, e, tg, G, h => by
    unfold ckI at h
    split at h
    · simp only [Bool.and_eq_true, decide_eq_true_eq] at h
      obtain ⟨⟨rfl, h2⟩, h3⟩ := h
      refine ⟨pi_rng (ev := fun env st => R.bind (evE cf ir env st) fun x st => some ([x], st)) (G.gl h2) (G.blt _ (by decide)) (sA_cons (evr := fun _ st => some ([], st)) (ck_star h3 _ _) (sndE ir sc X _ G h3) (sA_nil fun env st r e0 => (Option.some.inj e0).symm) fun env st r e0 => ?_) (ck_star h3 _ _) fun env st r e0 => ?_, fun _ => rfl⟩
      · obtain ⟨x, st1, e1, e2⟩ := bind_some e0
        exact ⟨x, st1, [], st1, e1, rfl, (Option.some.inj e2).symm⟩
      · rw [evI] at e0
        obtain ⟨x, st1, e1, e2⟩ := bind_some e0
        split at e2
        · split at e2
          · exact ⟨_, st1, by rw [e1]; rfl, by assumption, (Option.some.inj e2).symm⟩
          · cases e2
        · cases e2
    · cases h
  | .rng2 ir ir2, sc, X, e, tg, G, h => by
    unfold ckI at h
    split at h
    · simp only [Bool.and_eq_true, decide_eq_true_eq] at h
      obtain ⟨⟨⟨rfl, h2⟩, h3⟩, h4⟩ := h
      refine ⟨pi_rng2 (ev := fun env st => R.bind (evE cf ir env st) fun x st => R.bind (evE cf ir2 env st) fun y st => some ([x, y], st)) (G.gl h2) (G.blt _ (by decide)) (sA_cons (evr := fun env st => R.bind (evE cf ir2 env st) fun y st => some ([y], st)) (ck_star h3 _ _) (sndE ir sc X _ G h3)
        (sA_cons (evr := fun _ st => some ([], st)) (ck_star h4 _ _) (sndE ir2 sc X _ G h4) (sA_nil fun env st r e0 => (Option.some.inj e0).symm) fun env st r e0 => ?_) fun env st r e0 => ?_) (by rw [ck_star h3, ck_star h4]; rfl) (ck_star h4 _ _) fun env st r e0 => ?_, fun _ => rfl⟩
      · obtain ⟨x, st1, e1, e2⟩ := bind_some e0
        exact ⟨x, st1, [], st1, e1, rfl, (Option.some.inj e2).symm⟩
      · obtain ⟨x, st1, e1, e2⟩ := bind_some e0
        obtain ⟨y, st2, e3, e4⟩ := bind_some e2
        exact ⟨x, st1, [y], st2, e1, by rw [e3]; rfl, (Option.some.inj e4).symm⟩
      · rw [evI] at e0
        obtain ⟨x, st1, e1, e2⟩ := bind_some e0
        obtain ⟨y, st2, e3, e4⟩ := bind_some e2
        split at e4
        · split at e4
          · rename_i hc
            rw [Bool.and_eq_true] at hc
            exact ⟨_, _, st2, (bind_of e1).trans (bind_of e3), hc.1, hc.2, (Option.some.inj e4).symm⟩
          · cases e4
        · cases e4
    · cases h
  | .rrng ir, sc, X, e, tg, G, h => by
    unfold ckI at h
    split at h
    · simp only [Bool.and_eq_true, decide_eq_true_eq] at h
      obtain ⟨⟨⟨⟨rfl, h2⟩, rfl⟩, h4⟩, h5⟩ := h
      refine ⟨pi_rrng (G.gl h4) (G.blt _ (by decide)) (G.gl h2) (G.blt _ (by decide)) (sndE ir sc X _ G h5) (ck_star h5 _ _) fun env st r e0 => ?_, fun _ => rfl⟩
      rw [evI] at e0
      obtain ⟨x, st1, e1, e2⟩ := bind_some e0
      split at e2
      · split at e2
        · exact ⟨_, st1, e1, by assumption, (Option.some.inj e2).symm⟩
        · cases e2
      · cases e2
    · cases h
  | .enum ir, sc, X, e, tg, G, h => by
    unfold ckI at h
    split at h
    · simp only [Bool.and_eq_true, decide_eq_true_eq] at h
      obtain ⟨⟨⟨rfl, h2⟩, h3⟩, h4⟩ := h
      obtain ⟨es, k, p, rfl⟩ := tup_of h3
      refine ⟨pi_enumD (ev := fun env st => R.bind (evE cf ir env st) fun x st => some ([x], st)) (G.gl h2) (G.blt _ (by decide)) (sA_cons (evr := fun _ st => some ([], st)) (ck_star h4 _ _) (sndE ir sc X _ G h4) (sA_nil fun env st r e0 => (Option.some.inj e0).symm) fun env st r e0 => ?_) (ck_star h4 _ _) fun env st r e0 => ?_, fun _ => rfl⟩
      · obtain ⟨x, st1, e1, e2⟩ := bind_some e0
        exact ⟨x, st1, [], st1, e1, rfl, (Option.some.inj e2).symm⟩
      · rw [evI] at e0
        obtain ⟨x, st1, e1, e2⟩ := bind_some e0
        split at e2
        · exact ⟨_, st1, .inl (by rw [e1]; rfl), (Option.some.inj e2).symm⟩
        · exact ⟨_, st1, .inr (by rw [e1]; rfl), (Option.some.inj e2).symm⟩
        · cases e2
    · cases h
  | .zip ir ir2, sc, X, e, tg, G, h => by
    unfold ckI at h
    split at h
    · simp only [Bool.and_eq_true, decide_eq_true_eq] at h
      obtain ⟨⟨⟨⟨rfl, h2⟩, h0⟩, h3⟩, h4⟩ := h
      obtain ⟨es, k, p, rfl⟩ := tup_of h0
      refine ⟨pi_zipD (ev := fun env st => R.bind (evE cf ir env st) fun x st => R.bind (evE cf ir2 env st) fun y st => some ([x, y], st)) (G.gl h2) (G.blt _ (by decide)) (sA_cons (evr := fun env st => R.bind (evE cf ir2 env st) fun y st => some ([y], st)) (ck_star h3 _ _) (sndE ir sc X _ G h3)
        (sA_cons (evr := fun _ st => some ([], st)) (ck_star h4 _ _) (sndE ir2 sc X _ G h4) (sA_nil fun env st r e0 => (Option.some.inj e0).symm) fun env st r e0 => ?_) fun env st r e0 => ?_) (ck_star h3 _ _) (by rw [ck_star h4]; rfl) fun env st r e0 => ?_, fun _ => rfl⟩
      · obtain ⟨x, st1, e1, e2⟩ := bind_some e0
        exact ⟨x, st1, [], st1, e1, rfl, (Option.some.inj e2).symm⟩
      · obtain ⟨x, st1, e1, e2⟩ := bind_some e0
        obtain ⟨y, st2, e3, e4⟩ := bind_some e2
        exact ⟨x, st1, [y], st2, e1, by rw [e3]; rfl, (Option.some.inj e4).symm⟩
      · rw [evI] at e0
        obtain ⟨x, st1, e1, e2⟩ := bind_some e0
        obtain ⟨y, st2, e3, e4⟩ := bind_some e2
        split at e4
        · exact ⟨_, _, st2, .inl ((bind_of e1).trans (bind_of e3)), (Option.some.inj e4).symm⟩
        · exact ⟨_, _, st2, .inr ((bind_of e1).trans (bind_of e3)), (Option.some.inj e4).symm⟩
        · cases e4
    · cases h
end
end
end Kw

set_option Elab.async false
set_option linter.all false
set_option maxRecDepth 100000
set_option maxHeartbeats 2000000
/-! Kw: the statements are sound. -/
namespace Kw
open PySem PySem.Spec PyProof.Rows L2

def FlR (K : PySem.W.Frag) (w : Wd) (fl : Fl) (D : Ends) : Prop :=
  match fl with
  | .nx env => ∀ σ, EnvR K w env σ → D.nx σ w.H
  | .rt d => ∀ v, Rp K w d v → D.rt v w.H
  | .bk env => ∀ σ, EnvR K w env σ → D.bk σ w.H
  | .ct env => ∀ σ, EnvR K w env σ → D.ct σ w.H
def PostF (K : PySem.W.Frag) (w : Wd) (fl : Fl) (st' : Store) (D : Ends) : Prop := ∀ w', Ok K w' → Le w w' → w'.st = st' → FlR K w' fl D
theorem PostF.mono {K : PySem.W.Frag} {w w1 : Wd} {fl : Fl} {st' : Store} {D : Ends} (h : PostF K w fl st' D) (le : Le w w1) : PostF K w1 fl st' D := fun w' k l e => h w' k (le.trans l) e
def SemS (K : PySem.W.Frag) (ev : Env → Store → R Fl) : TS := fun D σ H => ∃ w env fl st', w.H = H ∧ Ok K w ∧ EnvR K w env σ ∧ ev env w.st = some (fl, st') ∧ PostF K w fl st' D

section
variable {X : Cx} {e e2 e3 tg : Expr} {pos : Pos} {ev ev2 ev3 : Env → Store → R D} {evs : Env → Store → R Fl}
theorem sS_asg {te : TE} {g : G} (h : PS X (.Assign [tg] e pos) (tAsg te (gK X.K g))) (ht : ∀ σ H Q, SemE X.K ev σ H Q → te σ H Q) (h' : ∀ env st r, evs env st = some r → ∃ x st1 env1, ev env st = some (x, st1) ∧ asgG g x env = some env1 ∧ r = (.nx env1, st1)) :
    PS X (.Assign [tg] e pos) (SemS X.K evs) := by
  refine psTo h fun D σ H ⟨w, env, fl, st', hH, ok, er, e0, post⟩ => ?_
  obtain ⟨x, st1, env1, e1, e2, e3⟩ := h' _ _ _ e0
  cases e3
  refine ht _ _ _ ⟨w, env, x, _, hH, ok, er, e1, fun w1 v k1 le1 es1 r1 => ?_⟩
  exact gK_ok (vs := []) e2 r1 (er.mono ok le1) fun σ' er' _ => post w1 k1 le1 es1 σ' er'
theorem sS_par {i j : Nat} {ta : TA} (h : PS X (.Assign [tg] e pos) (tPar i j ta)) {eva : Env → Store → R (List D)} (ht : ∀ σ H Q, SemA X.K eva σ H Q → ta σ H Q)
    (h' : ∀ env st r, evs env st = some r → ∃ x y st1, eva env st = some ([x, y], st1) ∧ r = (.nx ((env.set i (some x)).set j (some y)), st1)) : PS X (.Assign [tg] e pos) (SemS X.K evs) := by
  refine psTo h fun D σ H ⟨w, env, fl, st', hH, ok, er, e0, post⟩ => ?_
  obtain ⟨x, y, st1, e1, e3⟩ := h' _ _ _ e0
  cases e3
  refine ht _ _ _ ⟨w, env, _, _, hH, ok, er, e1, fun w1 vs k1 le1 es1 r1 => ?_⟩
  obtain ⟨v, u, rfl, q1, q2⟩ := r1.two
  exact ⟨v, u, rfl, post w1 k1 le1 es1 _ (((er.mono ok le1).set i q1).set j q2)⟩
theorem sS_aug {i : Nat} {x : Str} {op : Operator} {p : Pos} (hop : op ≠ .Pow) (hN : X.N.Nodup) (hi : X.N[i]? = some x) (hx : Loc X.env.scope x) (hf : X.fn x = true ∨ X.env.scope.names.lookup x = some .local) (he : PE X e (SemE X.K ev))
    (h' : ∀ env st r, evs env st = some r → ∃ a b z st1, env[i]? = some (some (.int a)) ∧ ev env st = some (.int b, st1) ∧ binD op (.int a) (.int b) = some z ∧ r = (.nx (env.set i (some z)), st1)) : PS X (.AugAssign (.Name x p) op e pos) (SemS X.K evs) := by
  have hip : PIp X op (fun x y H Q => ∃ w a b z, w.H = H ∧ Ok X.K w ∧ x = .int a ∧ y = .int b ∧ binD op (.int a) (.int b) = some z ∧ Post X.K w z w.st Q) := by
    rintro pins s σ H x y v u Q I r1 r2 ⟨w, a, b, z, rfl, ok, rfl, rfl, e1, post⟩
    exact op_aug op hop e1 I r1 r2 ok post
  refine psTo (ps_aug hN hi hx he hip hf) fun D σ H ⟨w, env, fl, st', hH, ok, er, e0, post⟩ => ?_
  obtain ⟨a, b, z, st1, e1, e2, e3, e4⟩ := h' _ _ _ e0
  cases e4
  obtain ⟨v, hv, r⟩ := er.2 _ _ e1
  cases r
  refine ⟨_, hv, w, env, _, _, hH, ok, er, e2, fun w1 u k1 le1 es1 r1 => ?_⟩
  cases r1
  subst es1
  exact ⟨w1, a, b, z, rfl, k1, rfl, rfl, e3, fun w2 y k2 le2 es2 r2 => post w2 k2 (le1.trans le2) es2 _ ((er.mono ok (le1.trans le2)).set i r2)⟩
theorem sS_sub {p : Pos} (Cm : Calm X) (hv : PE X e3 (SemE X.K ev3)) (ho : PE X e (SemE X.K ev)) (hi : PE X e2 (SemE X.K ev2)) (hs : swapsWithSole [.Subscript e e2 p] e3 pos.line X.env = pure false) (hw : swappedStores [.Subscript e e2 p] e3 X.env = pure none)
    (ha : ∀ v, assign (.Subscript e e2 p) X.env v = (do
      let ov ← holding [v] (eval e X.env)
      let iv ← holding [v, ov] (eval e2 X.env)
      standAt p
      holding [v, ov, iv] (setItem ov iv v)
      release [v, ov, iv] []))
    (h' : ∀ env st r, evs env st = some r → ∃ v st1 o st2 i st3 st4, ev3 env st = some (v, st1) ∧ ev env st1 = some (o, st2) ∧ ev2 env st2 = some (i, st3) ∧ subD o i v st3 = some st4 ∧ r = (.nx env, st4)) : PS X (.Assign [.Subscript e e2 p] e3 pos) (SemS X.K evs) := by
  have hset : PSet X (fun o i v H Q => ∃ w a b c st4, w.H = H ∧ Ok X.K w ∧ Rp X.K w a o ∧ Rp X.K w b i ∧ Rp X.K w c v ∧ subD a b c w.st = some st4 ∧ ∀ w', Ok X.K w' → Le w w' → w'.st = st4 → Q w'.H) := by
    rintro pins s σ H o i v ov iv u Q I r1 r2 r3 ⟨w, a, b, c, st4, rfl, ok, q1, q2, q3, e1, q⟩
    exact sub_ok Cm I ok q1 q2 q3 r1 r2 r3 e1 q
  refine psTo (ps_asg hv (pg_sub ho hi hset ha) hs hw rfl) fun D σ H ⟨w, env, fl, st', hH, ok, er, e0, post⟩ => ?_
  obtain ⟨v, st1, o, st2, i, st3, st4, e1, e2, e3, e4, e5⟩ := h' _ _ _ e0
  cases e5
  refine ⟨w, env, v, st1, hH, ok, er, e1, fun w1 x1 k1 le1 es1 r1 => ⟨w1, env, o, st2, rfl, k1, er.mono ok le1, by rw [es1]; exact e2, fun w2 x2 k2 le2 es2 r2 => ⟨w2, env, i, st3, rfl, k2, er.mono ok (le1.trans le2), by rw [es2]; exact e3, fun w3 x3 k3 le3 es3 r3 => ?_⟩⟩⟩
  subst es3
  exact ⟨w3, o, i, v, _, rfl, k3, r2.mono k2 le3, r3, (r1.mono k1 le2).mono k2 le3, e4, fun w4 k4 le4 es4 => post w4 k4 (le1.trans (le2.trans (le3.trans le4))) es4 _ (er.mono ok (le1.trans (le2.trans (le3.trans le4))))⟩
theorem sS_if {evc : Env → Store → R Bool} {a b : List Stmt} {eva evb : Env → Store → R Fl} (hc : PT X e (SemT X.K evc)) (ha : PSs X a (SemS X.K eva)) (hb : PSs X b (SemS X.K evb))
    (h' : ∀ env st r, evs env st = some r → ∃ c st1, evc env st = some (c, st1) ∧ ((c = true ∧ eva env st1 = some r) ∨ (c = false ∧ evb env st1 = some r))) : PS X (.If e a b pos) (SemS X.K evs) := by
  refine psTo (ps_if hc ha hb) fun D σ H ⟨w, env, fl, st', hH, ok, er, e0, post⟩ => ?_
  obtain ⟨c, st1, e1, e3⟩ := h' _ _ _ e0
  refine ⟨w, env, c, st1, hH, ok, er, e1, fun w1 k1 le1 es1 => ?_⟩
  subst es1
  rcases e3 with ⟨rfl, e3⟩ | ⟨rfl, e3⟩
  · rw [if_pos rfl]
    exact ⟨w1, env, fl, st', rfl, k1, er.mono ok le1, e3, post.mono le1⟩
  · rw [if_neg Bool.false_ne_true]
    exact ⟨w1, env, fl, st', rfl, k1, er.mono ok le1, e3, post.mono le1⟩
theorem sS_ret (he : PE X e (SemE X.K ev)) (h' : ∀ env st r, evs env st = some r → ∃ x st1, ev env st = some (x, st1) ∧ r = (.rt x, st1)) : PS X (.Return (some e) pos) (SemS X.K evs) := by
  refine psTo (ps_ret he) fun D σ H ⟨w, env, fl, st', hH, ok, er, e0, post⟩ => ?_
  obtain ⟨x, st1, e1, e3⟩ := h' _ _ _ e0
  cases e3
  exact ⟨w, env, x, _, hH, ok, er, e1, fun w1 v k1 le1 es1 r1 => post w1 k1 le1 es1 v r1⟩
theorem sS_ex (he : PE X e (SemE X.K ev)) (hs : swapsWith e none pos.line X.env = pure false) (h' : ∀ env st r, evs env st = some r → ∃ x st1, ev env st = some (x, st1) ∧ r = (.nx env, st1)) : PS X (.Expr e pos) (SemS X.K evs) := by
  refine psTo (ps_expr he hs) fun D σ H ⟨w, env, fl, st', hH, ok, er, e0, post⟩ => ?_
  obtain ⟨x, st1, e1, e3⟩ := h' _ _ _ e0
  cases e3
  exact ⟨w, env, x, _, hH, ok, er, e1, fun w1 v k1 le1 es1 r1 => post w1 k1 le1 es1 _ (er.mono ok le1)⟩
theorem sS_for {evi : Env → Store → R (List D)} {body : List Stmt} {evb : Env → Store → R Fl} {g : G} (hp : PassesOwn (model X.prog X.w) X.A X.env X.xe) (hc : X.calm = true) (hi : PI X tg e (SemI X.K evi)) (hg : PG X tg (gK X.K g)) (hb : PSs X body (SemS X.K evb))
    (hs : ∀ x, foldedSetIterable e X.env x = pure x) (h' : ∀ env st r, evs env st = some r → ∃ ds st1, evi env st = some (ds, st1) ∧ evFor g evb ds env st1 = some r) : PS X (.For tg e body [] pos) (SemS X.K evs) := by
  refine psTo (ps_for hp hc hi hg hb hs) fun D σ H ⟨w, env, fl, st', hH, ok, er, e0, post⟩ => ?_
  obtain ⟨ds, st1, e1, e2⟩ := h' _ _ _ e0
  refine ⟨w, env, ds, st1, hH, ok, er, e1, fun w1 J k1 le1 es1 jok => ?_⟩
  refine ⟨fun i m σ H => m = ds.length - i ∧ i ≤ ds.length ∧ ∃ w' env', w'.H = H ∧ Ok X.K w' ∧ Le w1 w' ∧ EnvR X.K w' env' σ ∧ evFor g evb (ds.drop i) env' w'.st = some (fl, st'), ⟨_, rfl, Nat.zero_le _, w1, env, rfl, k1, Le.refl _, er.mono ok le1, by rw [List.drop_zero, es1]; exact e2⟩, ?_⟩
  rintro i m σ' H' ⟨rfl, hi, w', env', rfl, k', le', er', e3⟩
  by_cases hlt : i < ds.length
  · rw [List.drop_eq_getElem_cons hlt] at e3
    have hget : ds[i]? = some ds[i] := by simp [hlt]
    obtain ⟨jgo, jy⟩ := (jok w' k' le' i).2 _ hget
    refine .inr ⟨jgo, fun σ H => ∃ w' env', w'.H = H ∧ Ok X.K w' ∧ Le w1 w' ∧ EnvR X.K w' env' σ ∧ evFor g evb (ds.drop (i + 1)) env' w'.st = some (fl, st'), fun σ' H' p' => ⟨ds.length - (i + 1), by omega, rfl, hlt, p'⟩, fun x H' y => ?_⟩
    obtain ⟨w2, k2, le2, es2, rfl, r2⟩ := jy x H' y
    unfold evFor at e3
    split at e3
    · cases e3
    · rename_i env1 ea
      obtain ⟨fl1, st2, e4, e5⟩ := bind_some e3
      refine gK_ok (vs := []) ea r2 (er'.mono k' le2) fun σ2 er2 _ => ⟨w2, env1, fl1, st2, rfl, k2, er2, by rw [es2]; exact e4, fun w3 k3 le3 es3 => ?_⟩
      have le13 := le'.trans (le2.trans le3)
      cases fl1 with
      | nx env3 => exact fun σ3 er3 => ⟨w3, env3, rfl, k3, le13, er3, by rw [es3]; exact e5⟩
      | ct env3 => exact fun σ3 er3 => ⟨w3, env3, rfl, k3, le13, er3, by rw [es3]; exact e5⟩
      | bk env3 =>
        cases e5
        exact fun σ3 er3 => post w3 k3 (le1.trans le13) es3 σ3 er3
      | rt d =>
        cases e5
        exact fun v r3 => post w3 k3 (le1.trans le13) es3 v r3
  · have e : i = ds.length := by omega
    subst e
    rw [List.drop_length] at e3
    unfold evFor at e3
    cases e3
    exact .inl ⟨(jok w' k' le' ds.length).1 (Nat.le_refl _), post w' k' (le1.trans le') rfl σ' er'⟩
theorem sS_while {evc : Env → Store → R Bool} {body : List Stmt} {evb : Env → Store → R Fl} {n : Nat} (hp : PassesOwn (model X.prog X.w) X.A X.env X.xe) (hc : PT X e (SemT X.K evc)) (hb : PSs X body (SemS X.K evb))
    (h' : ∀ env st r, evs env st = some r → evWh evc evb n env st = some r) : PS X (.While e body [] pos) (SemS X.K evs) := by
  refine psTo (ps_while hp hc hb) fun D σ H ⟨w, env, fl, st', hH, ok, er, e0, post⟩ => ?_
  refine ⟨fun m σ H => ∃ w' env', w'.H = H ∧ Ok X.K w' ∧ Le w w' ∧ EnvR X.K w' env' σ ∧ evWh evc evb m env' w'.st = some (fl, st'), ⟨n, w, env, hH, ok, Le.refl _, er, h' _ _ _ e0⟩, ?_⟩
  rintro m σ' H' ⟨w', env', rfl, k', le', er', e3⟩
  cases m with
  | zero => cases e3
  | succ m =>
    unfold evWh at e3
    obtain ⟨t, st1, e1, e2⟩ := bind_some e3
    refine ⟨w', env', t, st1, rfl, k', er', e1, fun w1 k1 le1 es1 => ?_⟩
    cases t with
    | false =>
      rw [if_neg Bool.false_ne_true] at e2 ⊢
      cases e2
      exact post w1 k1 (le'.trans le1) es1 σ' (er'.mono k' le1)
    | true =>
      rw [if_pos rfl] at e2 ⊢
      obtain ⟨fl1, st2, e4, e5⟩ := bind_some e2
      refine ⟨fun σ H => ∃ w' env', w'.H = H ∧ Ok X.K w' ∧ Le w w' ∧ EnvR X.K w' env' σ ∧ evWh evc evb m env' w'.st = some (fl, st'), fun σ' H' p' => ⟨m, Nat.lt_succ_self _, p'⟩, w1, env', fl1, st2, rfl, k1, er'.mono k' le1, by rw [es1]; exact e4, fun w3 k3 le3 es3 => ?_⟩
      have le13 := le'.trans (le1.trans le3)
      cases fl1 with
      | nx env3 => exact fun σ3 er3 => ⟨w3, env3, rfl, k3, le13, er3, by rw [es3]; exact e5⟩
      | ct env3 => exact fun σ3 er3 => ⟨w3, env3, rfl, k3, le13, er3, by rw [es3]; exact e5⟩
      | bk env3 =>
        cases e5
        exact fun σ3 er3 => post w3 k3 le13 es3 σ3 er3
      | rt d =>
        cases e5
        exact fun v r3 => post w3 k3 le13 es3 v r3
theorem sSs_nil (h' : ∀ env st r, evs env st = some r → r = (.nx env, st)) : PSs X [] (SemS X.K evs) := by
  refine pssTo pss_nil fun D σ H ⟨w, env, fl, st', hH, ok, er, e0, post⟩ => ?_
  cases h' _ _ _ e0
  subst hH
  exact post w ok (Le.refl _) rfl σ er
theorem sSs_cons {s : Stmt} {rest : List Stmt} {ev1 ev2 : Env → Store → R Fl} (h1 : PS X s (SemS X.K ev1)) (h2 : PSs X rest (SemS X.K ev2))
    (h' : ∀ env st r, evs env st = some r → ∃ fl st1, ev1 env st = some (fl, st1) ∧ ((∃ env1, fl = .nx env1 ∧ ev2 env1 st1 = some r) ∨ ((∀ env1, fl ≠ .nx env1) ∧ r = (fl, st1)))) : PSs X (s :: rest) (SemS X.K evs) := by
  refine pssTo (pss_cons h1 h2) fun D σ H ⟨w, env, fl, st', hH, ok, er, e0, post⟩ => ?_
  obtain ⟨fl1, st1, e1, e2⟩ := h' _ _ _ e0
  refine ⟨w, env, fl1, st1, hH, ok, er, e1, fun w1 k1 le1 es1 => ?_⟩
  rcases e2 with ⟨env1, rfl, e2⟩ | ⟨hn, e2⟩
  · exact fun σ1 er1 => ⟨w1, env1, fl, st', rfl, k1, er1, by rw [es1]; exact e2, post.mono le1⟩
  · cases e2
    have q := post w1 k1 le1 es1
    cases fl with
    | nx env1 => exact absurd rfl (hn env1)
    | rt d => exact q
    | bk env1 => exact q
    | ct env1 => exact q
/-- a list of the store that from here on is a value -/
theorem frz_rp {K : PySem.W.Frag} {w : Wd} {l : Nat} {ds : List D} {v : V} (k : Ok K w) (e : w.st[l]? = some (.lst ds)) (r : Rp K w (.ref l) v) : Rp K (w.frz l) (.lst ds) v := by
  cases r with
  | ref hl =>
    obtain ⟨_, vs, e1, r1⟩ := k.ob l _ e
    refine .lst (w := w.frz l) e1 (fun z => ?_) (r1.mono k le_frz)
    rcases z with z | ⟨j, m, e2, nd, q⟩
    · exact k.hn _ l _ z e (fun z => by cases z) rfl
    · have e3 : (w.st.set l .dead)[j]? = some m := e2
      by_cases hj : j = l
      · subst hj
        rw [List.getElem?_set_self hl] at e3
        exact nd (Option.some.inj e3).symm
      · rw [List.getElem?_set_ne (Ne.symm hj)] at e3
        exact hj (k.inj j l m _ e3 e nd (fun z => by cases z) q)
theorem sSs_frz {i : Nat} {rest : List Stmt} {ev2 : Env → Store → R Fl} (h2 : PSs X rest (SemS X.K ev2))
    (h' : ∀ env st r, evs env st = some r → ev2 env st = some r ∨ ∃ l ds, env[i]? = some (some (.ref l)) ∧ st[l]? = some (.lst ds) ∧ ev2 (env.set i (some (.lst ds))) (st.set l .dead) = some r) : PSs X rest (SemS X.K evs) := by
  refine pssTo h2 fun D σ H ⟨w, env, fl, st', hH, ok, er, e0, post⟩ => ?_
  rcases h' _ _ _ e0 with e1 | ⟨l, ds, e1, e2, e3⟩
  · exact ⟨w, env, fl, st', hH, ok, er, e1, post⟩
  · obtain ⟨v, hv, r⟩ := er.2 _ _ e1
    have q := (er.mono ok (le_frz (l := l))).set i (frz_rp ok e2 r)
    have hs : σ.set i (some v) = σ := by
      obtain ⟨hi, hg⟩ := List.getElem?_eq_some_iff.mp hv
      rw [← hg, List.set_getElem_self]
    rw [hs] at q
    exact ⟨w.frz l, _, fl, st', hH, ok.frz l, q, e3, post.mono le_frz⟩
end
end Kw

set_option Elab.async false
set_option linter.all false
set_option maxRecDepth 100000
set_option maxHeartbeats 2000000
/-! Kw: the text's statements against the terms; the defs keep their promises. -/
namespace Kw
open PySem PySem.Spec PyProof.Rows L2

/-- a comprehension's value stored to a plain local of its line -/
def swB (sc : Scope) (tg v : Expr) : Bool := match v, tg with
  | .ListComp _ _ scope vpos, .Name y py => decide (sc.names.lookup y = some .local) && (py.line == vpos.line) && !(scope.names.any fun (n, k) => n == y && (k == .local || k == .cell))
  | _, _ => false
/-- a tuple stored to a tuple, constants alone -/
def foldB (tg v : Expr) : Bool := match tg, v with
  | .Tuple _ _ _, .Tuple vs _ _ => vs.all (foldedForSure 8)
  | _, _ => true
def isComp : Expr → Bool
  | .ListComp _ _ _ _ => true
  | _ => false
mutual
def ckS (C : Ctx) (sc : Scope) : S → Stmt → Bool
  | .asg g e, s => match s with
    | .Assign [tg] v _ => ckG C noFn sc g tg && ckE C sc e v && foldB tg v
    | _ => false
  | .par2 i j a b, s => match s with
    | .Assign [.Tuple [.Name x px, .Name y py] _ _] (.Tuple [u, v] _ _) _ => decide (C.N[i]? = some x) && decide (C.N[j]? = some y) && decide (i ≠ j) && decide (x ≠ y) && decide (sc.names.lookup x = some .local) && decide (sc.names.lookup y = some .local) && (px.line == py.line) &&
        !([u, v].all (foldedForSure 8)) && !([u, v].all (constantsAlone 8)) && ckE C sc a u && ckE C sc b v
    | _ => false
  | .aug i op e, s => match s with
    | .AugAssign (.Name x _) op' v _ => ckN C noFn sc i x && decide (op = op') && decide (op ≠ .Pow) && ckE C sc e v
    | _ => false
  | .sub o i e, s => match s with
    | .Assign [.Subscript o' i' _] v _ => ckE C sc o o' && ckE C sc i i' && ckE C sc e v
    | _ => false
  | .if_ c a b, s => match s with
    | .If t x y _ => ckE C sc c t && c.tOk && ckSs C sc a x && ckSs C sc b y
    | _ => false
  | .for_ g it b, s => match s with
    | .For tg iter body [] _ => ckG C noFn sc g tg && ckI C sc it iter tg && ckSs C sc b body
    | _ => false
  | .while_ c b, s => match s with
    | .While t body [] _ => ckE C sc c t && c.tOk && ckSs C sc b body
    | _ => false
  | .ret e, s => match s with
    | .Return (some v) _ => ckE C sc e v
    | _ => false
  | .ex e, s => match s with
    | .Expr v _ => ckE C sc e v && !isComp v
    | _ => false
  | .brk, s => match s with
    | .Break _ => true
    | _ => false
  | .cont, s => match s with
    | .Continue _ => true
    | _ => false
  | .pass, s => match s with
    | .Pass _ => true
    | _ => false
  | .never, _ => true
  | .frz _, _ => false
def ckSs (C : Ctx) (sc : Scope) : List S → List Stmt → Bool
  | [], ss => ss.isEmpty
  | .frz _ :: irs, ss => ckSs C sc irs ss
  | ir :: irs, ss => match ss with
    | s :: ss => ckS C sc ir s && ckSs C sc irs ss
    | [] => false
end

/-- a def's body -/
structure GdS (C : Ctx) (cf : CF) (sc : Scope) (X : Cx) : Prop where
  gd : Gd C cf sc X
  kind : sc.kind = .function
  fn : ∀ x, X.fn x = true
theorem GdS.block {C : Ctx} {cf : CF} {sc : Scope} {X : Cx} (G : GdS C cf sc X) : X.env.blockKind = .function := by
  unfold Env.blockKind
  rw [G.gd.sc, G.kind]
  rfl
theorem ck_nocomp {C : Ctx} {sc : Scope} {ir : E} {e : Expr} (h : ckE C sc ir e = true) (hc : isComp e = false) (t : Option Expr) (l : Nat) (env : PySem.Env) : swapsWith e t l env = pure false := by
  cases e with
  | ListComp a b c d => cases hc
  | SetComp a b c d =>
    cases ir with
    | bi b es => cases b <;> (simp only [ckE] at h; try (split at h <;> cases h)) <;> cases h
    | _ => simp only [ckE] at h <;> cases h
  | DictComp a b c d =>
    cases ir with
    | bi b es => cases b <;> (simp only [ckE] at h; try (split at h <;> cases h)) <;> cases h
    | _ => simp only [ckE] at h <;> cases h
  | _ => rfl
theorem sw_false {C : Ctx} {cf : CF} {sc : Scope} {X : Cx} {ir : E} {e tg : Expr} (G : GdS C cf sc X) (h : ckE C sc ir e = true) (hs : swB sc tg e = false) (l : Nat) : swapsWithSole [tg] e l X.env = pure false := by
  show swapsWith e (some tg) l X.env = pure false
  by_cases hc : isComp e = false
  · exact ck_nocomp h hc _ _ _
  · cases e with
    | ListComp a b scope d =>
      cases tg with
      | Name y py =>
        unfold swapsWith
        have hk : (X.env.kindOf y == some NameKind.local) = decide (sc.names.lookup y = some .local) := by
          show (X.env.scope.names.lookup y == some NameKind.local) = _
          rw [G.gd.sc, Bool.beq_eq_decide_eq]
        have q : (X.env.blockKind == .function && X.env.kindOf y == some .local && py.line == (Expr.ListComp a b scope d).pos.line && !(scope.names.any fun (n, k) => n == y && (k == .local || k == .cell))) = false := by
          have hs' : (decide (sc.names.lookup y = some .local) && (py.line == d.line) && !(scope.names.any fun (n, k) => n == y && (k == .local || k == .cell))) = false := hs
          rw [hk, Bool.and_assoc, Bool.and_assoc]
          rw [Bool.and_assoc] at hs'
          show (_ && (decide (sc.names.lookup y = some .local) && ((py.line == d.line) && !(scope.names.any fun (n, k) => n == y && (k == .local || k == .cell))))) = false
          rw [hs', Bool.and_false]
        exact congrArg pure q
      | _ => rfl
    | _ => exact absurd rfl hc
theorem sw_true' {C : Ctx} {cf : CF} {sc : Scope} {X : Cx} {elt : Expr} {gs : List Comprehension} {scope : Scope} {d py : Pos} {y : Str} (G : GdS C cf sc X) (hs : swB sc (.Name y py) (.ListComp elt gs scope d) = true) (l : Nat) :
    swapsWith (.ListComp elt gs scope d) (some (.Name y py)) l X.env = pure true ∧ X.env.scope.names.lookup y = some .local := by
  unfold swB at hs
  simp only [Bool.and_eq_true, decide_eq_true_eq, Bool.not_eq_true'] at hs
  obtain ⟨⟨h1, h2⟩, h3⟩ := hs
  rw [← G.gd.sc] at h1
  exact ⟨sw_true (by rw [G.gd.sc]; exact G.kind) h1 h2 h3, h1⟩
theorem fold_none {tg v : Expr} {env : PySem.Env} (h : foldB tg v = true) (h2 : ∀ es p, tg ≠ .List es p) : swappedStores [tg] v env = pure none := by
  unfold swappedStores
  cases tg with
  | Tuple ts k p =>
    cases v with
    | Tuple vs k2 p2 =>
      have hf : vs.all (foldedForSure 8) = true := h
      simp only [hf]
      repeat (first | rfl | split)
    | _ => rfl
  | List es p => exact absurd rfl (h2 es p)
  | _ => rfl
theorem par_some {x y : Str} {px py pt pt2 : Pos} {kt k2 : Nat} {u v : Expr} {env : PySem.Env} (hb : env.blockKind = .function) (hx : env.kindOf x = some .local) (hy : env.kindOf y = some .local) (hl : (px.line == py.line) = true) (hxy : x ≠ y)
    (h1 : ([u, v].all (foldedForSure 8)) = false) (h2 : ([u, v].all (constantsAlone 8)) = false) (hs : ∀ a p, u ≠ .Starred a p) (hs2 : ∀ a p, v ≠ .Starred a p) :
    swappedStores [.Tuple [.Name x px, .Name y py] kt pt] (.Tuple [u, v] k2 pt2) env = pure (some [x, y]) := by
  unfold swappedStores
  have hst : ([u, v].any fun | .Starred .. => true | _ => false) = false := by
    rw [List.any_eq_false]
    intro z hz
    rcases List.mem_cons.mp hz with rfl | hz
    · cases z <;> first | exact absurd rfl (hs _ _) | simp
    · rcases List.mem_cons.mp hz with rfl | hz
      · cases z <;> first | exact absurd rfl (hs2 _ _) | simp
      · cases hz
  have hl' : py.line = px.line := (beq_iff_eq.mp hl).symm
  have hd : ([x, y] : List Str).eraseDups = [x, y] := by
    have : (y == x) = false := by rw [beq_eq_false_iff_ne]; exact fun z => hxy z.symm
    simp [List.eraseDups_cons, this]
  simp [hb, hst, Expr.pos, hx, hy, hl', h1, h2, hd]
theorem ck_nostar {C : Ctx} {sc : Scope} {ir : E} {e : Expr} (h : ckE C sc ir e = true) (a : Expr) (p : Pos) : e ≠ .Starred a p := by
  rintro rfl
  have q := ck_star h [] ⟨sc, 0, 0, [], "", none, .none, none, 0⟩
  cases q
section
variable (C : Ctx) (cf : CF)
theorem fnT {X : Cx} {sc : Scope} {C : Ctx} {cf : CF} (G : GdS C cf sc X) : ∀ x, noFn x = true → X.fn x = true := fun x _ => G.fn x
mutual
theorem sndS : ∀ (ir : S) (sc : Scope) (X : Cx) (s : Stmt), GdS C cf sc X → ckS C sc ir s = true → PS X s (SemS X.K (evS cf ir))
  | .asg g e, sc, X, s, G, h => by
    unfold ckS at h
    split at h
    · rename_i tg v pos
      simp only [Bool.and_eq_true] at h
      obtain ⟨⟨h1, h2⟩, h3⟩ := h
      have hg : PG X tg (gK X.K g) := pgG G.gd (fnT G) h1
      have hev : ∀ env st r, evS cf (.asg g e) env st = some r → ∃ x st1 env1, evE cf e env st = some (x, st1) ∧ asgG g x env = some env1 ∧ r = (.nx env1, st1) := fun env st r e0 => by
        rw [evS] at e0
        obtain ⟨x, st1, e1, e2⟩ := bind_some e0
        obtain ⟨env1, e3, e4⟩ := map_some e2
        exact ⟨x, st1, env1, e1, e3, e4.symm⟩
      have hlist : ∀ es p, tg ≠ .List es p := by
        rintro es p rfl
        cases g <;> cases h1
      have hone : (assignEach [tg] X.env).map (·.2) = [assign tg X.env] := by
        cases tg with
        | Starred a p => cases g <;> cases h1
        | _ => rfl
      cases hs : swB sc tg v with
      | false => exact sS_asg (ps_asg (sndE C cf e sc X v G.gd h2) hg (sw_false G h2 hs _) (fold_none h3 hlist) hone) (fun _ _ _ z => z) hev
      | true =>
        cases v with
        | ListComp elt gs scope d =>
          cases tg with
          | Name y py =>
            obtain ⟨sw1, sw2⟩ := sw_true' G hs pos.line
            cases e with
            | lc mu elt' g' it c own =>
              unfold ckE at h2
              split at h2
              · rename_i e' tg' iter ifs scope' pos' heq
                cases heq
                simp only [Bool.and_eq_true, decide_eq_true_eq] at h2
                obtain ⟨⟨⟨⟨⟨⟨k1, k2⟩, k3⟩, k4⟩, k5⟩, k6⟩, k7⟩ := h2
                obtain ⟨i1, i2⟩ := sndI C cf it sc X _ tg' G.gd k1
                have ok : BlkOk X.N X.env.scope scope (ownP C own) := by
                  rw [G.gd.N, G.gd.sc]
                  exact blkOk_by k3
                cases g with
                | nm i =>
                  have hn : ckN C noFn sc i y = true := h1
                  unfold ckN at hn
                  simp only [Bool.and_eq_true, decide_eq_true_eq] at hn
                  have q := ps_setLc (X := X) (te := SemE X.K (evE cf elt')) (tt := SemT X.K (evC cf c)) (g := gK X.K g') G.gd.calm.calm (by rw [G.gd.N]; exact G.gd.nd) (by rw [G.gd.N]; exact hn.1) sw2 sw1 i1 ok
                    (fun s H A cl fp => pgG (fn := fun x => scope.names.lookup x == some .cell) (G.gd.blk s H scope A cl fp) (fun x z => z) k5)
                    (fun s H A cl fp => sndIf C cf c _ _ _ (G.gd.blk s H scope A cl fp) k6)
                    (fun s H A cl fp => sndE C cf elt' _ _ _ (G.gd.blk s H scope A cl fp) k7) i2
                  rw [k2] at q
                  refine sS_asg (g := .nm i) (ev := evE cf (.lc mu elt' g' it c own)) q (fun σ H Q z => lc_ok (mu := mu) (own_mem k2 k4) σ H Q ?_) hev
                  obtain ⟨w, env, d, st', hH, ok, er, e0, post⟩ := z
                  rw [evE] at e0
                  exact ⟨w, env, d, st', hH, ok, er, e0, post⟩
                | tup is => cases h1
              · cases h2
            | bi b es => cases b <;> (simp only [ckE] at h2; try (split at h2 <;> cases h2)) <;> cases h2
            | _ => simp only [ckE] at h2 <;> cases h2
          | _ => cases hs
        | _ => cases hs
    · cases h
  | .par2 i j a b, sc, X, s, G, h => by
    unfold ckS at h
    split at h
    · rename_i x px y py k1 p1 u v k2 p2 pos
      simp only [Bool.and_eq_true, decide_eq_true_eq, Bool.not_eq_true'] at h
      obtain ⟨⟨⟨⟨⟨⟨⟨⟨⟨⟨h1, h2⟩, h3⟩, h4⟩, h5⟩, h6⟩, h7⟩, h8⟩, h9⟩, h10⟩, h11⟩ := h
      have hx : X.env.scope.names.lookup x = some .local := by rw [G.gd.sc]; exact h5
      have hy : X.env.scope.names.lookup y = some .local := by rw [G.gd.sc]; exact h6
      have ha : PA X [u, v] (SemA X.K (evEs cf [a, b])) := sndEs C cf [a, b] sc X [u, v] G.gd (by simp [ckEs, h10, h11])
      refine sS_par (ps_par G.gd.calm.calm (by rw [G.gd.N]; exact G.gd.nd) (by rw [G.gd.N]; exact h1) (by rw [G.gd.N]; exact h2) h3 hx hy ha (par_some G.block hx hy h7 h4 h8 h9 (ck_nostar h10) (ck_nostar h11)) rfl) (fun _ _ _ z => z) fun env st r e0 => ?_
      rw [evS] at e0
      obtain ⟨d, st1, e1, e2⟩ := bind_some e0
      obtain ⟨d2, st2, e3, e4⟩ := bind_some e2
      split at e4
      · refine ⟨d, d2, st2, ?_, (Option.some.inj e4).symm⟩
        have q2 : evEs cf [b] env st1 = some ([d2], st2) := by
          rw [evEs, bind_of e3, evEs]
          rfl
        rw [evEs, bind_of e1, bind_of q2]
      · cases e4
    · cases h
  | .aug i op e, sc, X, s, G, h => by
    unfold ckS at h
    split at h
    · rename_i x px op' v pos
      simp only [Bool.and_eq_true, decide_eq_true_eq] at h
      obtain ⟨⟨⟨h1, rfl⟩, h3⟩, h4⟩ := h
      unfold ckN at h1
      simp only [Bool.and_eq_true, Bool.or_eq_true, decide_eq_true_eq] at h1
      refine sS_aug h3 (by rw [G.gd.N]; exact G.gd.nd) (by rw [G.gd.N]; exact h1.1) ?_ (.inl (G.fn x)) (sndE C cf e sc X v G.gd h4) fun env st r e0 => ?_
      · rw [L2.Loc, G.gd.sc]
        exact h1.2.imp id fun z => z.1
      · rw [evS] at e0
        split at e0
        · rename_i d q
          obtain ⟨y, st1, e1, e2⟩ := bind_some e0
          split at e2
          · obtain ⟨z, e3, e4⟩ := map_some e2
            exact ⟨_, _, z, st1, q, e1, e3, e4.symm⟩
          · cases e2
        · cases e0
    · cases h
  | .sub o i e, sc, X, s, G, h => by
    unfold ckS at h
    split at h
    · rename_i o' i' p v pos
      simp only [Bool.and_eq_true] at h
      obtain ⟨⟨h1, h2⟩, h3⟩ := h
      refine sS_sub G.gd.calm (sndE C cf e sc X v G.gd h3) (sndE C cf o sc X o' G.gd h1) (sndE C cf i sc X i' G.gd h2) (sw_false G h3 (by cases v <;> rfl) _) (fold_none rfl fun _ _ z => nomatch z) (fun v => ?_) fun env st r e0 => ?_
      · cases i' with
        | Slice l u st p' => exact absurd (ck_ix h2) (by
            cases i with
            | bi b es => cases b <;> (simp only [ckE] at h2; try (split at h2 <;> cases h2)) <;> cases h2
            | _ => simp only [ckE] at h2 <;> cases h2)
        | _ => rfl
      · rw [evS] at e0
        obtain ⟨d, st1, e1, e2⟩ := bind_some e0
        obtain ⟨d2, st2, e3, e4⟩ := bind_some e2
        obtain ⟨d3, st3, e5, e6⟩ := bind_some e4
        obtain ⟨st4, e7, e8⟩ := map_some e6
        exact ⟨d, st1, d2, st2, d3, st3, st4, e1, e3, e5, e7, e8.symm⟩
    · cases h
  | .if_ c a b, sc, X, s, G, h => by
    unfold ckS at h
    split at h
    · simp only [Bool.and_eq_true] at h
      obtain ⟨⟨⟨h1, h2⟩, h3⟩, h4⟩ := h
      refine sS_if (sndT C cf c sc X _ G.gd h1 h2) (sndSs a sc X _ G h3) (sndSs b sc X _ G h4) fun env st r e0 => ?_
      rw [evS] at e0
      obtain ⟨x, st1, e1, e2⟩ := bind_some e0
      split at e2
      · rename_i q
        exact ⟨true, st1, by unfold evT; rw [bind_of e1, q]; rfl, .inl ⟨rfl, e2⟩⟩
      · rename_i q
        exact ⟨false, st1, by unfold evT; rw [bind_of e1, q]; rfl, .inr ⟨rfl, e2⟩⟩
      · cases e2
    · cases h
  | .for_ g it b, sc, X, s, G, h => by
    unfold ckS at h
    split at h
    · simp only [Bool.and_eq_true] at h
      obtain ⟨⟨h1, h2⟩, h3⟩ := h
      obtain ⟨i1, i2⟩ := sndI C cf it sc X _ _ G.gd h2
      refine sS_for (by rw [G.gd.xe]; exact PassesOwn.never) G.gd.calm.calm i1 (pgG G.gd (fnT G) h1) (sndSs b sc X _ G h3) i2 fun env st r e0 => ?_
      rw [evS] at e0
      obtain ⟨ds, st1, e1, e2⟩ := bind_some e0
      exact ⟨ds, st1, e1, e2⟩
    · cases h
  | .while_ c b, sc, X, s, G, h => by
    unfold ckS at h
    split at h
    · simp only [Bool.and_eq_true] at h
      obtain ⟨⟨h1, h2⟩, h3⟩ := h
      refine sS_while (n := FU) (by rw [G.gd.xe]; exact PassesOwn.never) (sndT C cf c sc X _ G.gd h1 h2) (sndSs b sc X _ G h3) fun env st r e0 => ?_
      rw [evS] at e0
      exact e0
    · cases h
  | .ret e, sc, X, s, G, h => by
    unfold ckS at h
    split at h
    · refine sS_ret (sndE C cf e sc X _ G.gd h) fun env st r e0 => ?_
      rw [evS] at e0
      obtain ⟨x, st1, e1, e2⟩ := bind_some e0
      exact ⟨x, st1, e1, (Option.some.inj e2).symm⟩
    · cases h
  | .ex e, sc, X, s, G, h => by
    unfold ckS at h
    split at h
    · simp only [Bool.and_eq_true, Bool.not_eq_true'] at h
      refine sS_ex (sndE C cf e sc X _ G.gd h.1) (ck_nocomp h.1 h.2 _ _ _) fun env st r e0 => ?_
      rw [evS] at e0
      obtain ⟨x, st1, e1, e2⟩ := bind_some e0
      exact ⟨x, st1, e1, (Option.some.inj e2).symm⟩
    · cases h
  | .brk, sc, X, s, G, h => by
    unfold ckS at h
    split at h
    · refine psTo ps_break fun D σ H ⟨w, env, fl, st', hH, ok, er, e0, post⟩ => ?_
      rw [evS] at e0
      cases e0
      subst hH
      exact post w ok (Le.refl _) rfl σ er
    · cases h
  | .cont, sc, X, s, G, h => by
    unfold ckS at h
    split at h
    · refine psTo ps_continue fun D σ H ⟨w, env, fl, st', hH, ok, er, e0, post⟩ => ?_
      rw [evS] at e0
      cases e0
      subst hH
      exact post w ok (Le.refl _) rfl σ er
    · cases h
  | .pass, sc, X, s, G, h => by
    unfold ckS at h
    split at h
    · refine psTo ps_pass fun D σ H ⟨w, env, fl, st', hH, ok, er, e0, post⟩ => ?_
      rw [evS] at e0
      cases e0
      subst hH
      exact post w ok (Le.refl _) rfl σ er
    · cases h
  | .never, sc, X, s, G, h => psTo ps_never fun D σ H ⟨w, env, fl, st', hH, ok, er, e0, post⟩ => by
    rw [evS] at e0
    cases e0
  | .frz i, sc, X, s, G, h => by
    unfold ckS at h
    cases h
theorem sndSs : ∀ (irs : List S) (sc : Scope) (X : Cx) (ss : List Stmt), GdS C cf sc X → ckSs C sc irs ss = true → PSs X ss (SemS X.K (evSs cf irs))
  | [], sc, X, ss, G, h => by
    unfold ckSs at h
    rw [List.isEmpty_iff] at h
    subst h
    exact sSs_nil fun env st r e0 => by rw [evSs] at e0; exact (Option.some.inj e0).symm
  | ir :: irs, sc, X, ss, G, h => by
    by_cases hf : ∃ i, ir = .frz i
    · obtain ⟨i, rfl⟩ := hf
      have h' : ckSs C sc irs ss = true := by
        unfold ckSs at h
        exact h
      refine sSs_frz (i := i) (sndSs irs sc X ss G h') fun env st r e0 => ?_
      rw [evSs] at e0
      obtain ⟨fl, st1, e1, e2⟩ := bind_some e0
      rw [evS] at e1
      split at e1
      · cases e1
        exact .inl e2
      · rename_i l q
        split at e1
        · rename_i ds q2
          cases e1
          exact .inr ⟨l, ds, q, q2, e2⟩
        · cases e1
      · cases e1
    · have h' : ∃ s ss', ss = s :: ss' ∧ ckS C sc ir s = true ∧ ckSs C sc irs ss' = true := by
        cases ss with
        | nil =>
          cases ir with
          | frz i => exact absurd ⟨i, rfl⟩ hf
          | _ => simp [ckSs] at h
        | cons s ss' =>
          refine ⟨s, ss', rfl, ?_⟩
          cases ir with
          | frz i => exact absurd ⟨i, rfl⟩ hf
          | _ =>
            simp only [ckSs, Bool.and_eq_true] at h
            exact h
      obtain ⟨s, ss', rfl, h1, h2⟩ := h'
      refine sSs_cons (sndS ir sc X s G h1) (sndSs irs sc X ss' G h2) fun env st r e0 => ?_
      rw [evSs] at e0
      obtain ⟨fl, st1, e1, e2⟩ := bind_some e0
      refine ⟨fl, st1, e1, ?_⟩
      cases fl with
      | nx env1 => exact .inl ⟨env1, rfl, e2⟩
      | rt d => exact .inr ⟨(fun _ z => nomatch z), (Option.some.inj e2).symm⟩
      | bk d => exact .inr ⟨(fun _ z => nomatch z), (Option.some.inj e2).symm⟩
      | ct d => exact .inr ⟨(fun _ z => nomatch z), (Option.some.inj e2).symm⟩
end
end
end Kw

set_option Elab.async false
set_option linter.all false
set_option maxRecDepth 100000
set_option maxHeartbeats 2000000
/-! Kw: all defs of a text; the law. -/
namespace Kw
open PySem PySem.Spec PyProof.Rows L2

/-- one def of the text: its statement, its names, its parameters -/
structure FR where
  x : Str
  st : Stmt
  N : List Str
  ps : List Str
def scB (N ps : List Str) (sc : Scope) : Bool := (match sc.kind with
  | .function => true
  | _ => false) && !sc.isCoroutine && !sc.isGenerator && decide N.Nodup && decide (N.take ps.length = ps) &&
    (ps.all fun x => decide (sc.names.lookup x = some .local) || decide (sc.names.lookup x = some .cell)) && (sc.names.all fun y => !decide (y.2 = .free))
theorem scB_ok {N ps : List Str} {sc : Scope} (h : scB N ps sc = true) : FnScope N ps sc := by
  unfold scB at h
  simp only [Bool.and_eq_true, Bool.not_eq_true', decide_eq_true_eq, List.all_eq_true, Bool.or_eq_true] at h
  obtain ⟨⟨⟨⟨⟨⟨h1, h2⟩, h3⟩, h4⟩, h5⟩, h6⟩, h7⟩ := h
  refine ⟨?_, h2, h3, h4, h5, fun x hx => h6 x hx, fun y hy e => ?_⟩
  · split at h1
    · assumption
    · cases h1
  · have q := h7 y hy
    rw [e] at q
    cases q
def ckF (fs : List Str) (con : List (Str × D)) (dic : List (Str × List (Str × Int))) (r : FR) (f : Fn) : Bool :=
  scB r.N r.ps (defScope r.st) && decide (f.np = r.ps.length) && decide (f.nn = r.N.length) && ckSs ⟨r.N, fs, con, dic⟩ (defScope r.st) f.body (defBody r.st)
def ckFs (fs : List Str) (con : List (Str × D)) (dic : List (Str × List (Str × Int))) : List FR → List Fn → Bool
  | [], [] => true
  | r :: rs, f :: ts => ckF fs con dic r f && ckFs fs con dic rs ts
  | _, _ => false
theorem ckFs_get {fs : List Str} {con : List (Str × D)} {dic : List (Str × List (Str × Int))} : ∀ {rs : List FR} {ts : List Fn} {i : Nat} {r : FR}, ckFs fs con dic rs ts = true → rs[i]? = some r → ∃ f, ts[i]? = some f ∧ ckF fs con dic r f = true
  | [], _, i, r, _, e => by simp at e
  | _ :: _, [], _, _, h, _ => by simp [ckFs] at h
  | r0 :: rs, f0 :: ts, 0, r, h, e => by
    rw [ckFs, Bool.and_eq_true] at h
    cases e
    exact ⟨f0, rfl, h.1⟩
  | r0 :: rs, f0 :: ts, i + 1, r, h, e => by
    rw [ckFs, Bool.and_eq_true] at h
    obtain ⟨f, h1, h2⟩ := ckFs_get (i := i) h.2 (by simpa using e)
    exact ⟨f, by simpa using h1, h2⟩
/-- what the top has left of a def -/
structure FF (K : PySem.W.Frag) (mg : Str → Option Value) (r : FR) (f : Addr) (fd : FuncData) : Prop where
  fn : Fun K r.x r.x r.st f fd
  mg : mg r.x = some (.ref f)
  bi : Binds K fd r.ps []
inductive FFs (K : PySem.W.Frag) (mg : Str → Option Value) : List FR → Prop
  | nil : FFs K mg []
  | cons {r : FR} {rs : List FR} {f : Addr} {fd : FuncData} : FF K mg r f fd → FFs K mg rs → FFs K mg (r :: rs)
theorem FFs.get {K : PySem.W.Frag} {mg : Str → Option Value} : ∀ {rs : List FR} {i : Nat} {r : FR}, FFs K mg rs → rs[i]? = some r → ∃ f fd, FF K mg r f fd
  | _, _, _, .nil, e => by simp at e
  | _, 0, _, .cons h _, e => by cases e; exact ⟨_, _, h⟩
  | _, i + 1, _, .cons _ t, e => FFs.get (i := i) t (by simpa using e)
theorem ff_mk {K : PySem.W.Frag} {h : Heap} {mg : Str → Option Value} {r : FR} {f : Addr} {oc : Value} {od an : Option Addr} {osl : Array (Option Value)} {kV doc pm cdv ct : Value} (X : K.In h) (G : h.Ns mainGlobals mg) (a : PySem.W.nsIn K mainGlobals r.x = some (some (.ref f)))
    (l : K.lookup f = some ⟨oc, od, .func (PySem.W.fnOf r.x r.x (defArgs r.st) (defBody r.st) (defScope r.st) .none kV doc pm an cdv ct), osl⟩) (c : PySem.W.codeIn K cdv r.x = true) (k : PySem.W.keepIn K (.ref f) = true)
    (b : ∀ (kV doc pm : Value) (an : Option Addr) (cdv ct : Value) (us : List Value), us.length = r.ps.length → bindArgs (PySem.W.fnOf r.x r.x (defArgs r.st) (defBody r.st) (defScope r.st) .none kV doc pm an cdv ct) ⟨us, []⟩ = pure (r.ps.zip us)) :
    FF K mg r f (PySem.W.fnOf r.x r.x (defArgs r.st) (defBody r.st) (defScope r.st) .none kV doc pm an cdv ct) :=
  have F := fun_mk l c k
  ⟨F, PySem.W.mg_of X G a, F.binds b⟩
/-- what else the top has left -/
structure Tops (K : PySem.W.Frag) (w : World) (mg : Str → Option Value) (con : List (Str × D)) (dic : List (Str × List (Str × Int))) : Prop where
  con : ∀ p ∈ con, ∃ u v, mg p.1 = some u ∧ RelV v u ∧ ∀ w, Rp K w p.2 v
  dic : ∀ p ∈ dic, ∃ a, mg p.1 = some (.ref a) ∧ KTab K w a p.2
  blt : ∀ x, isBlt x = true → mg x = none

section
variable {P : Program} {w : World} {K : PySem.W.Frag} {mg : Str → Option Value} {base : Heap} {rows : List FR} {tab : Tab} {con : List (Str × D)} {dic : List (Str × List (Str × Int))}
theorem deeper_guards {A : Around} {e : PySem.Env} (h : A.guards = some []) : (A.deeper e).guards = some [] := h
theorem all_fns (fs : FFs K mg rows) (T : Tops K w mg con dic) (ck : ckFs (rows.map (·.x)) con dic rows tab = true) : ∀ (k i : Nat) (r : FR), rows[i]? = some r → ∀ (f : Addr) (fd : FuncData), FF K mg r f fd → FnG P w K mg base k f fd r.ps (OpN K (cfN tab k i))
  | 0, i, r, hr, f, fd, F => ⟨(fun vs H Q ⟨w, ds, d, st', _, _, _, e, _⟩ => nomatch (show none = some (d, st') from e)), (fun A outer s H args us vs Q _ _ _ _ _ ⟨w, ds, d, st', _, _, _, e, _⟩ => nomatch (show none = some (d, st') from e))⟩
  | k + 1, i, r, hr, f, fd, F => by
    obtain ⟨fn, ht, hc⟩ := ckFs_get ck hr
    unfold ckF at hc
    simp only [Bool.and_eq_true, decide_eq_true_eq] at hc
    obtain ⟨⟨⟨c1, c2⟩, c3⟩, c5⟩ := hc
    have S := scB_ok c1
    have run_ : ∀ {ds : List D} {st : Store} {x : D × Store}, cfN tab (k + 1) i ds st = some x → runF (cfN tab k) fn ds st = some x := fun {ds st x} e => by
      have q : (match tab[i]? with
        | some f => runF (cfN tab k) f ds st
        | none => none) = some x := e
      rw [ht] at q
      exact q
    obtain ⟨oc, od, kV, doc, pm, an, cdv, ct, osl, hfd, lk, hcd⟩ := F.fn.ex
    subst hfd
    refine fn_ofG lk hcd S (fun vs H Q ⟨w0, ds, d, st', _, _, rs, e, _⟩ => ?_) fun A outer s H vs Q hr' hgd h => ?_
    · have q := run_ e
      unfold runF at q
      split at q
      · rename_i hl
        rw [rs.length, hl, c2]
      · cases q
    · have G : GdS ⟨r.N, rows.map (·.x), con, dic⟩ (cfN tab k) (defScope r.st) (cxOf noX P w K mg base r.N r.x (defScope r.st) f cdv A outer s H noE).nox :=
        { gd :=
          { sc := rfl
            N := rfl
            nd := S.nd
            calm := ⟨rfl, by have := hr'.un; show (A.deeper (envOfC r.x (defScope r.st) s.heap.objs.size f cdv)).units + 100 < cLine; omega, deeper_guards hgd⟩
            xe := rfl
            glob := fun x d hx => by
              unfold Ctx.isCon at hx
              obtain ⟨p, hp, hq⟩ := List.any_eq_true.mp hx
              rw [Bool.and_eq_true, decide_eq_true_eq] at hq
              obtain ⟨u, v, h1, h2, h3⟩ := T.con p hp
              rw [← hq.1, ← D.eqb_eq hq.2]
              exact ⟨u, v, h1, h2, h3⟩
            blt := T.blt
            call := fun j x hx => by
              have hx' : (rows.map (·.x))[j]? = some x := hx
              rw [List.getElem?_map] at hx'
              cases q : rows[j]? with
              | none => rw [q] at hx'; cases hx'
              | some r' =>
                rw [q] at hx'
                cases hx'
                obtain ⟨f', fd', F'⟩ := fs.get q
                exact ⟨k, f', fd', r'.ps, F'.mg, F'.fn.kp, F'.bi, hr', all_fns fs T ck k j r' q f' fd' F'⟩
            dic := fun x t hx => by
              unfold Ctx.isDic at hx
              obtain ⟨p, hp, hq⟩ := List.any_eq_true.mp hx
              rw [Bool.and_eq_true, decide_eq_true_eq, decide_eq_true_eq] at hq
              obtain ⟨a, h1, h2⟩ := T.dic p hp
              rw [← hq.1, ← hq.2]
              exact ⟨a, h1, h2⟩ }
          kind := S.kind
          fn := fun _ => rfl }
      refine ⟨_, (sndSs _ _ fn.body _ _ _ G c5).nox, ?_⟩
      obtain ⟨w0, ds, d, st', rfl, ok, rs, e, post⟩ := h
      have q := run_ e
      unfold runF at q
      split at q
      · rename_i hl
        have er : EnvR K w0 (ds.map some ++ List.replicate (fn.nn - fn.np) none) (L2.start r.N vs) := by
          unfold L2.start
          refine ⟨?_, fun j x hx => ?_⟩
          · rw [List.length_append, List.length_append, List.length_map, List.length_map, List.length_replicate, List.length_replicate, rs.length, c3, ← hl]
          · by_cases hj : j < ds.length
            · rw [List.getElem?_append_left (by simpa using hj), List.getElem?_map] at hx
              cases q2 : ds[j]? with
              | none => rw [q2] at hx; cases hx
              | some x' =>
                rw [q2] at hx
                cases hx
                obtain ⟨v, h1, h2⟩ := rs.get q2
                exact ⟨v, by rw [List.getElem?_append_left (by rw [List.length_map, rs.length]; exact hj), List.getElem?_map, h1]; rfl, h2⟩
            · rw [List.getElem?_append_right (by simpa using hj), List.getElem?_replicate] at hx
              split at hx <;> cases hx
        have cut : ∀ {w1 : Wd} {x : D} {v : V}, Ok K w1 → Le w0 w1 → retOf w0.st.length x w1.st = some (d, st') → Rp K w1 x v → Q v w1.H := fun {w1 x v} k1 le1 e1 r1 => by
          unfold retOf at e1
          cases e1
          by_cases hu : d.und w0.st.length = true
          · rw [if_pos hu] at post
            exact post (w1.cut w0.st.length) v (k1.cut le1.len) le1.cut rfl (r1.cut le1.len hu)
          · rw [if_neg hu] at post
            exact post w1 v k1 le1 rfl r1
        split at q
        · rename_i x st1 e1
          refine ⟨w0, _, .rt x, st1, rfl, ok, er, e1, fun w1 k1 le1 es1 v r1 => ?_⟩
          subst es1
          exact cut k1 le1 q r1
        · rename_i env st1 e1
          refine ⟨w0, _, .nx env, st1, rfl, ok, er, e1, fun w1 k1 le1 es1 σ er1 => ?_⟩
          subst es1
          exact cut k1 le1 q .non
        · cases q
      · cases q
end

/-! ### the law's end -/
theorem still_of {K : PySem.W.Frag} {H : Hp} {a : Addr} {xs : List V} (o : Only H) (h : SqL K H a xs) : Still K H a xs := by
  rcases h with (h | h) | h
  · rcases o a with z | ⟨ob, ys, z⟩ <;> (rw [h] at z; cases z)
  · exact .inl h
  · exact .inr h
theorem fnok_of {P : Program} {w : World} {K : PySem.W.Frag} {mg : Str → Option Value} {base : Heap} {k : Nat} {f : Addr} {fd : FuncData} {ps : List Str} {sp : List V → Hp → VK → Prop} (F : FnG P w K mg base k f fd ps sp)
    {A : Around} {s : Shared} {H : Hp} {args : Args} {us : List Value} {vs : List V} {Q : VK} (hr : Room k A) (hg : A.guards = some []) (e : Env0 P w K mg base A [] s H) (b : BindsTo s fd args (ps.zip us)) (r : Vals vs us) (h : sp vs H Q) :
    codeAny (model P w) A (.call (.ref f) args) (CR noX [] P w H s Q noE) s := F.run A [] s H args us vs Q hr hg e b r h
end Kw

set_option Elab.async false
set_option linter.all false
set_option maxRecDepth 100000
set_option maxHeartbeats 2000000
/-! Kw: the law, from its script. -/
namespace Kw
open PySem PySem.Spec PyProof.Rows L2

/-- the script's heap: tracked, unless it is one of the module's own objects -/
def scrH (K : PySem.W.Frag) (a : Addr) (vs : List Value) (ns : List Int) : Hp := fun b => if b = a ∧ K.lookup a = none then some (.frz { cls := .type "list", data := .seq vs.toArray } (.lst (ns.map V.int))) else none
section
variable {K : PySem.W.Frag} {a : Addr} {vs : List Value} {ns : List Int}
theorem scrH_some {b : Addr} {u : HO} (h : scrH K a vs ns b = some u) : b = a ∧ K.lookup a = none ∧ u = .frz { cls := .type "list", data := .seq vs.toArray } (.lst (ns.map V.int)) := by
  unfold scrH at h
  split at h
  · rename_i c
    exact ⟨c.1, c.2, (Option.some.inj h).symm⟩
  · cases h
theorem scrH_out {b : Addr} (h : b ≠ a) : scrH K a vs ns b = none := by
  unfold scrH
  rw [if_neg fun z => h z.1]
theorem scrH_own (h : K.lookup a ≠ none) (b : Addr) : scrH K a vs ns b = none := by
  unfold scrH
  rw [if_neg fun z => h z.2]
theorem scrH_at (h : K.lookup a = none) : scrH K a vs ns a = some (.frz { cls := .type "list", data := .seq vs.toArray } (.lst (ns.map V.int))) := by
  unfold scrH
  rw [if_pos ⟨rfl, h⟩]
theorem scrH_only : Only (scrH K a vs ns) := fun b => by
  cases q : scrH K a vs ns b with
  | none => exact .inl rfl
  | some u =>
    obtain ⟨_, _, rfl⟩ := scrH_some q
    exact .inr ⟨_, _, rfl⟩
end
theorem law_run {P : Program} {w : World} {K : PySem.W.Frag} {mg mb : Str → Option Value} {k : Nat} {fa a : Addr} {fd : FuncData} {x : Str} {sp : List V → Hp → VK → Prop} {s : Shared} {vs : List Value} {ns : List Int}
    (KX : K.In s.heap) (hns : s.heap.Ns mainGlobals mg) (hb : s.heap.Ns builtinsNs mb) (hbb : ∀ x : Str, x ≠ "__name__" → mb x = bootBuiltins x) (hlim : s.heap.NoLimit) (hg : s.gens = #[])
    (ha : s.heap.get? a = some { cls := .type "list", data := .seq vs.toArray }) (hi : IntsAre vs ns) (hl : ns.length ≤ sizeLine) (hr : Room k callerA)
    (F : ∀ base : Heap, K.In base → base.Ns mainGlobals mg → FnG P w K mg base k fa fd [x] sp) (hbind : ∀ (s : Shared) (u : Value), K.In s.heap → BindsTo s fd ⟨[u], []⟩ [(x, u)])
    (hsp : ∀ H : Hp, Still K H a (ns.map V.int) → sp [.ref a] H (fun v _ => v = .bl true)) :
    codeAny (model P w) callerA (.call (.ref fa) ⟨[.ref a], []⟩) (fun r s' => r = .ok (.ret (.bool true)) ∧ OldK s.heap s'.heap ∧ s'.os = s.os ∧ AllBare s'.gens) s := by
  have rv := L2.vals_ints hi
  have still : Still K (scrH K a vs ns) a (ns.map V.int) := by
    cases hk : K.lookup a with
    | none => exact .inl ⟨_, scrH_at hk⟩
    | some o =>
      have e := KX a o hk
      rw [ha] at e
      cases e
      exact .inr ⟨_, vs.toArray, _, hk, rfl, rfl, rfl, by rw [List.size_toArray, hi.length]; exact hl, by simpa using rv⟩
  have hok : HOk P w (scrH K a vs ns) s.heap := fun b u z => by
    obtain ⟨rfl, _, rfl⟩ := scrH_some z
    exact ⟨ha, by rw [List.length_map]; exact hl, vs, _, rv, ha⟩
  have inB : ∀ {b : Addr} {o : Obj}, s.heap.get? b = some o → scrH K a vs ns b = none → (hidT s.heap (scrH K a vs ns)).get? b = some o := fun e n => hidT_get e n
  have nsB : ∀ {b : Addr} {m : Str → Option Value}, s.heap.Ns b m → (hidT s.heap (scrH K a vs ns)).Ns b m := fun {b m} ⟨o, es, ep, e, d, r⟩ => by
    refine ⟨o, es, ep, inB e (scrH_out fun z => ?_), d, r⟩
    subst z
    rw [ha] at e
    cases e
    exact nomatch (show Data.seq vs.toArray _ = Data.dict es ep from d)
  have kB : K.In (hidT s.heap (scrH K a vs ns)) := fun b o e => by
    refine inB (KX b o e) ?_
    by_cases z : b = a
    · subst z
      exact scrH_own (by rw [e]; exact fun q => nomatch q) _
    · exact scrH_out z
  have M : L2.Mod K mg (hidT s.heap (scrH K a vs ns)) := ⟨kB, nsB hns, ⟨mb, nsB hb, hbb⟩, let ⟨mc, h1, h2⟩ := hlim; ⟨mc, nsB h1, h2⟩⟩
  have e0 : Env0 P w K mg (hidT s.heap (scrH K a vs ns)) callerA [] s (scrH K a vs ns) := ⟨rfl, M, fun b o e => of_hidT e, Nat.le_of_eq (hidT_size _ _), trivial, fun b hb => absurd (show b ∈ ([] : List Addr) from hb) (by simp), hok, .of_eq hg⟩
  refine codeAny_mono (fnok_of (F _ kB (nsB hns)) (us := [.ref a]) (vs := [.ref a]) (Q := fun v _ => v = .bl true) hr rfl e0 (hbind s (.ref a) KX) (.cons rfl .nil) (hsp _ still)) fun r s' h => ?_
  cases r with
  | error e => exact False.elim h
  | ok fl =>
    cases fl with
    | ret u =>
      obtain ⟨v, H', os, bare, un, hok', r', rfl⟩ := h
      obtain rfl : u = Value.bool true := r'
      refine ⟨rfl, OldK.of_keep fun b o e => ?_, os, bare⟩
      cases q : scrH K a vs ns b with
      | none => exact un.keep b o e q (fun z => absurd (show b ∈ ([] : List Addr) from z) (by simp)) (by simp)
      | some u =>
        obtain ⟨rfl, _, rfl⟩ := scrH_some q
        obtain ⟨e2, _⟩ := hok' b _ (un.frzs b _ _ q)
        rw [ha] at e
        cases e
        exact e2
    | next => exact False.elim h
    | brk => exact False.elim h
    | cont => exact False.elim h
/-- the goal that the head leaves, from the law's promise -/
theorem walk_run {l : PySem.W.OpenLaw} {n k : Nat} {q : Program} {loose : List Str} {XP : (Str → Option Value) → Heap → Prop} {YP : World → Heap → Prop} {d : DefRec} {K : Params → PySem.W.Frag} {sp : PySem.W.Frag → List V → Hp → VK → Prop} {x : Str}
    (hn : l.most = some n) (hn2 : n ≤ sizeLine) (hdf : d.params.defaults = []) (hr : Room k callerA) (hY : ∀ (w : World) (h : Heap), YP w h → (K w.params).In h)
    (F : ∀ (w : World) (mg : Str → Option Value) (fa : Addr) (h : Heap), (K w.params).In h → h.Ns mainGlobals mg → mg d.name = some (.ref fa) →
      ∃ fd : FuncData, (∀ (s : Shared) (u : Value), (K w.params).In s.heap → BindsTo s fd ⟨[u], []⟩ [(x, u)]) ∧ ∀ base : Heap, (K w.params).In base → base.Ns mainGlobals mg → FnG l.prog w (K w.params) mg base k fa fd [x] (sp (K w.params)))
    (hsp : ∀ (w : World) (H : Hp) (a : Addr) (ns : List Int), ns.length ≤ n → Still (K w.params) H a (ns.map V.int) → sp (K w.params) [.ref a] H (fun v _ => v = .bl true)) :
    PySem.W.WalkO q loose XP YP l.row.toRowW d [] (fun f vs => PySem.call f vs) := by
  refine Att.attach_call hn hdf fun w s₀ s₁ mg mb fa o pm cd doc a vs ns G Y ho hd hcd hmg hobj hints hlen hg => ?_
  have KX := hY w _ Y
  obtain ⟨fd, hb, hF⟩ := F w mg fa _ KX G.T.g hmg
  exact law_run KX G.T.g G.T.b G.T.builtins G.T.nolimit hg hobj hints (Nat.le_trans hlen hn2) hr hF hb fun H hS => hsp w H a ns hlen hS
/-- the law's own promise from the plain answer -/
theorem sp_law {K : PySem.W.Frag} {f : List D → Store → R D} {H : Hp} {a : Addr} {ns : List Int} (h : Still K H a (ns.map V.int)) {st : Store} (e : f [.scr ns] [] = some (.bl true, st)) : OpN K f [.ref a] H (fun v _ => v = .bl true) := by
  refine ⟨⟨fun _ => 0, [], H, fun _ => False⟩, [.scr ns], .bl true, st, rfl, ⟨fun i j mi mj e1 _ _ _ _ => by simp at e1, fun l mo e1 => by simp at e1, fun a z => False.elim z, fun a l mo z => False.elim z⟩, .cons (.scr h) .nil, e, fun w' v k le es r => ?_⟩
  cases r
  rfl
/-! ### what the top has left: constants -/
section
variable {K : PySem.W.Frag} {mg : Str → Option Value} {h : Heap}
/-- a constant of the module -/
def Con (K : PySem.W.Frag) (mg : Str → Option Value) (x : Str) (d : D) : Prop := ∃ u v, mg x = some u ∧ RelV v u ∧ ∀ w, Rp K w d v
theorem con_int (X : K.In h) (G : h.Ns mainGlobals mg) {x : Str} {i : Int} {t : Tok} (a : PySem.W.nsIn K mainGlobals x = some (some (.int i t))) : Con K mg x (.int i) := ⟨_, .int i, PySem.W.mg_of X G a, ⟨t, rfl⟩, fun w => .int i⟩
theorem con_str (X : K.In h) (G : h.Ns mainGlobals mg) {x : Str} {s s0 : Str} {t : Tok} (a : PySem.W.nsIn K mainGlobals x = some (some (.str s t))) (e : decide (s = s0) = true) : Con K mg x (.str s0) := by
  rw [← of_decide_eq_true e]
  exact ⟨_, .str s, PySem.W.mg_of X G a, ⟨t, rfl⟩, fun w => .str s⟩
def strsB : List Value → List Str → Bool
  | [], [] => true
  | .str s _ :: vs, t :: ts => decide (s = t) && strsB vs ts
  | _, _ => false
theorem strsB_ok : ∀ {vs : List Value} {ss : List Str}, strsB vs ss = true → Vals (ss.map V.str) vs
  | [], [], _ => .nil
  | [], _ :: _, h => by simp [strsB] at h
  | v :: vs, [], h => by cases v <;> simp [strsB] at h
  | v :: vs, t :: ts, h => by
    cases v with
    | str s k =>
      simp only [strsB, Bool.and_eq_true, decide_eq_true_eq] at h
      rw [h.1] at *
      exact .cons ⟨k, rfl⟩ (strsB_ok h.2)
    | _ => simp [strsB] at h
theorem con_strs (X : K.In h) (G : h.Ns mainGlobals mg) {x : Str} {ss : List Str} {p : Addr} {o : Obj} {its : Array Value} {n : Nat} (a : PySem.W.nsIn K mainGlobals x = some (some (.ref p))) (l : K.lookup p = some o) (hc : o.cls = .type "tuple") (hd : o.data = .seq its n)
    (hz : its.size ≤ sizeLine) (hv : strsB its.toList ss = true) : Con K mg x (.tup (ss.map D.str)) :=
  ⟨_, .ref p, PySem.W.mg_of X G a, rfl, fun w => .tup (.inr ⟨o, its, n, l, hc, hd, hz, strsB_ok hv⟩) (Rps.strs ss)⟩
inductive Cons (K : PySem.W.Frag) (mg : Str → Option Value) : List (Str × D) → Prop
  | nil : Cons K mg []
  | cons {x : Str} {d : D} {r : List (Str × D)} : Con K mg x d → Cons K mg r → Cons K mg ((x, d) :: r)
theorem Cons.all : ∀ {l : List (Str × D)}, Cons K mg l → ∀ p ∈ l, ∃ u v, mg p.1 = some u ∧ RelV v u ∧ ∀ w, Rp K w p.2 v
  | _, .nil, p, h => by cases h
  | _, .cons a t, p, h => by
    rcases List.mem_cons.mp h with rfl | h
    · exact a
    · exact t.all p h
def entsB : List DictEntry → List (Str × Int) → Bool
  | [], [] => true
  | e :: es, p :: ps => (match e.key, e.val with
    | .str s _, .int i _ => decide (s = p.1) && decide (i = p.2)
    | _, _ => false) && entsB es ps
  | _, _ => false
theorem entsB_ok {s : Str} : ∀ {l : List DictEntry} {t : List (Str × Int)}, entsB l t = true → (t.lookup s = none → (l.find? fun e => Value.isStrOf s e.key) = none) ∧ ∀ i, t.lookup s = some i → ∃ e tk, (l.find? fun e => Value.isStrOf s e.key) = some e ∧ e.val = .int i tk
  | [], [], _ => ⟨fun _ => rfl, fun i z => by cases z⟩
  | [], _ :: _, h => by simp [entsB] at h
  | _ :: _, [], h => by simp [entsB] at h
  | e :: es, (k, v) :: ps, h => by
    rw [entsB, Bool.and_eq_true] at h
    obtain ⟨h1, h2⟩ := h
    have ih := entsB_ok (s := s) h2
    split at h1
    · rename_i s' t' i' t2 e1 e2
      simp only [Bool.and_eq_true, decide_eq_true_eq] at h1
      obtain ⟨rfl, rfl⟩ := h1
      have q : Value.isStrOf s e.key = (s == s') := by
        rw [e1]
        first
          | rfl
          | (show (s' == s) = (s == s'); exact Bool.beq_comm)
      rw [List.lookup_cons, List.find?_cons, q]
      cases s == s' with
      | true => exact ⟨fun z => (by cases z), fun i z => (by cases z; exact ⟨e, t2, rfl, e2⟩)⟩
      | false => exact ih
    · cases h1
theorem ktab_of {w : World} {a : Addr} {es : Array DictEntry} {n : Nat} {t : List (Str × Int)} (l : K.lookup a = some ⟨.type "dict", none, .dict es n, #[]⟩) (lit : PySem.W.KeysLit w.params es.toList) (low : (a == sysModules) = false) (hk : entsB es.toList t = true) : KTab K w a t := by
  refine ⟨es, n, ⟨l, lit, low⟩, fun s => ?_⟩
  obtain ⟨h1, h2⟩ := entsB_ok (s := s) hk
  unfold findBy
  obtain ⟨es⟩ := es
  rw [List.find?_toArray]
  refine ⟨fun z => by rw [h1 z]; rfl, fun i z => ?_⟩
  obtain ⟨e, tk, e1, e2⟩ := h2 i z
  exact ⟨tk, by rw [e1, ← e2]; rfl⟩
theorem blt_of (X : K.In h) (G : h.Ns mainGlobals mg) (hb : ∀ x, isBlt x = true → PySem.W.nsIn K mainGlobals x = some none) : ∀ x, isBlt x = true → mg x = none := fun x hx => PySem.W.mg_none_of X G (hb x hx)
/-- the law's def, from what the top has left -/
theorem law_mk {P : Program} {w : World} {K : PySem.W.Frag} {h : Heap} {mg : Str → Option Value} {fa : Addr} {rows : List FR} {tab : Tab} {con : List (Str × D)} {dic : List (Str × List (Str × Int))} {i k : Nat} {r : FR} {x : Str} (X : K.In h) (G : h.Ns mainGlobals mg) (hi : rows[i]? = some r) (hp : r.ps = [x])
    (ck : ckFs (rows.map (·.x)) con dic rows tab = true) (hfa : mg r.x = some (.ref fa)) (cs : Cons K mg con) (ds : ∀ p ∈ dic, ∃ a, mg p.1 = some (.ref a) ∧ KTab K w a p.2) (bs : ∀ x, isBlt x = true → PySem.W.nsIn K mainGlobals x = some none) (fs : FFs K mg rows) :
    ∃ fd : FuncData, (∀ (s : Shared) (u : Value), K.In s.heap → BindsTo s fd ⟨[u], []⟩ [(x, u)]) ∧ ∀ base : Heap, K.In base → base.Ns mainGlobals mg → FnG P w K mg base k fa fd [x] (OpN K (cfN tab k i)) := by
  obtain ⟨f, fd, F⟩ := fs.get hi
  have e := hfa.symm.trans F.mg
  cases e
  refine ⟨fd, fun s u hs => ?_, fun base _ _ => ?_⟩
  · have q := F.bi s [u] hs (by rw [hp]; rfl)
    rw [hp] at q
    exact q
  · have q := all_fns (P := P) (w := w) (base := base) fs ⟨cs.all, ds, blt_of X G bs⟩ ck k i r hi fa fd F
    rw [hp] at q
    exact q
theorem blt_all {K : PySem.W.Frag} (h : ∀ y ∈ (["len", "list", "tuple", "sorted", "sum", "all", "any", "max", "min", "repr", "int", "dict", "isinstance", "range", "reversed", "enumerate", "zip", "str", "bool"] : List String), PySem.W.nsIn K mainGlobals (Str.ofString y) = some none) : ∀ x, isBlt x = true → PySem.W.nsIn K mainGlobals x = some none := fun x hx => by
  unfold isBlt at hx
  obtain ⟨y, hy, e⟩ := List.any_eq_true.mp hx
  rw [decide_eq_true_eq] at e
  subst e
  exact h _ hy
end
end Kw

set_option Elab.async false
set_option linter.all false
set_option maxRecDepth 100000
namespace Kw
open PySem PySem.Spec PyProof.Rows L2
abbrev F_is_name : Nat := 0
abbrev F_is_row : Nat := 1
abbrev F_has_form : Nat := 2
abbrev F_own_parts : Nat := 3
abbrev F_walked : Nat := 4
abbrev F_need_formula : Nat := 5
abbrev F_need_order : Nat := 6
abbrev F_names_in : Nat := 7
abbrev F_mask_of : Nat := 8
abbrev F_sides_of : Nat := 9
abbrev F_whole_of : Nat := 10
abbrev F_leaf_truths : Nat := 11
abbrev F_joint_truths : Nat := 12
abbrev F_truths_of : Nat := 13
abbrev F_row_at : Nat := 14
abbrev F_number_of : Nat := 15
abbrev F_rows_in : Nat := 16
abbrev F_is_yes : Nat := 17
abbrev F_rows_of : Nat := 18
abbrev F_hung_names : Nat := 19
abbrev F_hangs_on : Nat := 20
abbrev F_differ_at : Nat := 21
abbrev F_law_mixed : Nat := 22
abbrev F_law_begun : Nat := 23
abbrev F_law_draw : Nat := 24
abbrev F_law_one : Nat := 25
abbrev F_law_word : Nat := 26
abbrev F_law_names : Nat := 27
abbrev F_law_rooms : Nat := 28
abbrev F_law_made : Nat := 29
abbrev F_law_with : Nat := 30
abbrev F_law_yes : Nat := 31
abbrev F_law_rows : Nat := 32
abbrev F_law_own : Nat := 33
abbrev F_law_put_in : Nat := 34
abbrev F_law_contrary : Nat := 35
abbrev F_law_other : Nat := 36
abbrev F_law_turned : Nat := 37
abbrev F_law_called : Nat := 38
abbrev F_law_many : Nat := 39
abbrev F_law_deep : Nat := 40
abbrev F_law : Nat := 41
/-- is_name: 0 thing, 1 letter -/
def ir_is_name : Fn := ⟨1, 2,
  [.if_ (.or [(.not (.bi (.isinst "str") [(.var 0)])), (.not (.cmp2 .LtE .LtE (.con (.int 1)) (.bi .len [(.var 0)]) (.glob "MOST_LETTERS" (.int 8))))]) [.ret (.con (.bl false))] [],
   .ret (.bi .all [(.lc false (.cmp .In (.var 1) (.glob "SMALL" (.str "abcdefghijklmnopqrstuvwxyz"))) (.nm 1) (.seq (.var 0)) none [1])])]⟩
def nm_is_name : List Str := ["thing", "letter"]
/-- is_row: 0 thing, 1 one, 2 other -/
def ir_is_row : Fn := ⟨1, 3,
  [.if_ (.or [(.not (.bi (.isinst "tuple") [(.var 0)])), (.not (.bi .all [(.lc false (.call F_is_name [(.var 1)]) (.nm 1) (.seq (.var 0)) none [1])]))]) [.ret (.con (.bl false))] [],
   .ret (.bi .all [(.lc false (.cmp .Lt (.var 1) (.var 2)) (.tup [1, 2]) (.zip (.var 0) (.sl (.var 0) (some (.con (.int 1))) none)) none [1, 2])])]⟩
def nm_is_row : List Str := ["thing", "one", "other"]
/-- has_form: 0 thing -/
def ir_has_form : Fn := ⟨1, 1,
  [.if_ (.or [(.not (.bi (.isinst "tuple") [(.var 0)])), (.cmp .Eq (.bi .len [(.var 0)]) (.con (.int 0))), (.not (.bi (.isinst "str") [(.ix (.var 0) (.con (.int 0)))]))]) [.ret (.con (.bl false))] [],
   .if_ (.cmp .NotEq (.bi .len [(.var 0)]) (.kget "LENGTHS" [(("yes" : Str), 1), (("no" : Str), 1), (("name" : Str), 2), (("not" : Str), 2), (("and" : Str), 3), (("or" : Str), 3), (("xor" : Str), 3), (("if" : Str), 4), (("some" : Str), 3), (("all" : Str), 3), (("put" : Str), 4)] (.ix (.var 0) (.con (.int 0))) (.con (.int 0)))) [.ret (.con (.bl false))] [],
   .ret (.or [(.cmp .NotIn (.ix (.var 0) (.con (.int 0))) (.bin .Add (.glob "BINDERS" (.tup [(.str "some"), (.str "all"), (.str "put")])) (.tup [(.con (.str "name"))]))), (.call F_is_name [(.ix (.var 0) (.con (.int 1)))])])]⟩
def nm_has_form : List Str := ["thing"]
/-- own_parts: 0 formula -/
def ir_own_parts : Fn := ⟨1, 1,
  [.if_ (.cmp .In (.ix (.var 0) (.con (.int 0))) (.tup [(.con (.str "yes")), (.con (.str "no")), (.con (.str "name"))])) [.ret (.lst [])] [],
   .ret (.bi .list [(.ite (.cmp .In (.ix (.var 0) (.con (.int 0))) (.glob "BINDERS" (.tup [(.str "some"), (.str "all"), (.str "put")]))) (.sl (.var 0) (some (.con (.int 2))) none) (.sl (.var 0) (some (.con (.int 1))) none))])]⟩
def nm_own_parts : List Str := ["formula"]
/-- walked: 0 thing, 1 left, 2 found, 3 names, 4 some, 5 way, 6 part, 7 number -/
def ir_walked : Fn := ⟨1, 8,
  [.par2 2 3 (.nlst []) (.ndic [] []),
   .asg (.nm 1) (.nlst [(.tup [(.tup []), (.var 0)])]),
   .while_ (.cmp .NotEq (.var 1) (.lst [])) [.asg (.tup [5, 6]) (.mt .pop0 (.var 1) []),
     .if_ (.or [(.cmp .Eq (.bi .len [(.var 2)]) (.glob "MOST_PARTS" (.int 60))), (.cmp .Gt (.bi .len [(.var 5)]) (.glob "MOST_WITHIN" (.int 9))), (.not (.call F_has_form [(.var 6)]))]) [.never] [],
     .if_ (.cmp .In (.ix (.var 6) (.con (.int 0))) (.bin .Add (.glob "BINDERS" (.tup [(.str "some"), (.str "all"), (.str "put")])) (.tup [(.con (.str "name"))]))) [.sub (.var 3) (.ix (.var 6) (.con (.int 1))) (.con (.bl true))] [],
     .if_ (.cmp .Gt (.bi .len [(.var 3)]) (.glob "MOST_NAMES" (.int 10))) [.never] [],
     .ex (.mt .append (.var 2) [(.var 6)]),
     .asg (.nm 4) (.call F_own_parts [(.var 6)]),
     .ex (.mt .extend (.var 1) [(.lc false (.tup [(.bin .Add (.var 5) (.tup [(.var 7)])), (.ix (.var 4) (.var 7))]) (.nm 7) (.rrng (.bi .len [(.var 4)])) none [7])])],
   .frz 2,
   .ret (.tup [(.var 2), (.bi .list [(.var 3)])])]⟩
def nm_walked : List Str := ["thing", "left", "found", "names", "some", "way", "part", "number"]
/-- need_formula: 0 thing -/
def ir_need_formula : Fn := ⟨1, 1,
  [.ex (.call F_walked [(.var 0)]),
   .ret (.var 0)]⟩
def nm_need_formula : List Str := ["thing"]
/-- need_order: 0 thing, 1 number, 2 name -/
def ir_need_order : Fn := ⟨1, 3,
  [.if_ (.or [(.not (.bi (.isinst "tuple") [(.var 0)])), (.cmp .Gt (.bi .len [(.var 0)]) (.glob "MOST_NAMES" (.int 10)))]) [.never] [],
   .for_ (.tup [1, 2]) (.enum (.var 0)) [.if_ (.or [(.not (.call F_is_name [(.var 2)])), (.cmp .In (.var 2) (.sl (.var 0) none (some (.var 1))))]) [.never] []],
   .ret (.var 0)]⟩
def nm_need_order : List Str := ["thing", "number", "name"]
/-- names_in: 0 formula, 1 parts, 2 names -/
def ir_names_in : Fn := ⟨1, 3,
  [.asg (.tup [1, 2]) (.call F_walked [(.var 0)]),
   .ret (.var 2)]⟩
def nm_names_in : List Str := ["formula", "parts", "names"]
/-- mask_of: 0 number, 1 many, 2 block, 3 mask, 4 at -/
def ir_mask_of : Fn := ⟨2, 5,
  [.asg (.nm 2) (.bin .LShift (.bin .Sub (.bin .LShift (.con (.int 1)) (.bin .LShift (.con (.int 1)) (.var 0))) (.con (.int 1))) (.bin .LShift (.con (.int 1)) (.var 0))),
   .asg (.tup [3, 4]) (.tup [(.con (.int 0)), (.con (.int 0))]),
   .while_ (.cmp .Lt (.var 4) (.bin .LShift (.con (.int 1)) (.var 1))) [.aug 3 .BitOr (.bin .LShift (.var 2) (.var 4)),
     .aug 4 .Add (.bin .LShift (.con (.int 2)) (.var 0))],
   .ret (.var 3)]⟩
def nm_mask_of : List Str := ["number", "many", "block", "mask", "at"]
/-- sides_of: 0 truths, 1 number, 2 many, 3 high, 4 low, 5 mask, 6 shift -/
def ir_sides_of : Fn := ⟨3, 7,
  [.par2 5 6 (.call F_mask_of [(.var 1), (.var 2)]) (.bin .LShift (.con (.int 1)) (.var 1)),
   .asg (.nm 3) (.bin .BitAnd (.var 0) (.var 5)),
   .asg (.nm 4) (.bin .BitAnd (.var 0) (.inv (.var 5))),
   .ret (.tup [(.bin .BitOr (.var 3) (.bin .RShift (.var 3) (.var 6))), (.bin .BitOr (.var 4) (.bin .LShift (.var 4) (.var 6)))])]⟩
def nm_sides_of : List Str := ["truths", "number", "many", "high", "low", "mask", "shift"]
/-- whole_of: 0 many -/
def ir_whole_of : Fn := ⟨1, 1,
  [.ret (.bin .Sub (.bin .LShift (.con (.int 1)) (.bin .LShift (.con (.int 1)) (.var 0))) (.con (.int 1)))]⟩
def nm_whole_of : List Str := ["many"]
/-- leaf_truths: 0 formula, 1 names -/
def ir_leaf_truths : Fn := ⟨2, 2,
  [.if_ (.cmp .Eq (.ix (.var 0) (.con (.int 0))) (.con (.str "name"))) [.ret (.call F_mask_of [(.mt .index (.var 1) [(.ix (.var 0) (.con (.int 1)))]), (.bi .len [(.var 1)])])] [],
   .ret (.ite (.cmp .Eq (.ix (.var 0) (.con (.int 0))) (.con (.str "yes"))) (.call F_whole_of [(.bi .len [(.var 1)])]) (.con (.int 0)))]⟩
def nm_leaf_truths : List Str := ["formula", "names"]
/-- joint_truths: 0 word, 1 first, 2 second -/
def ir_joint_truths : Fn := ⟨3, 3,
  [.if_ (.cmp .Eq (.var 0) (.con (.str "and"))) [.ret (.bin .BitAnd (.var 1) (.var 2))] [],
   .ret (.ite (.cmp .Eq (.var 0) (.con (.str "or"))) (.bin .BitOr (.var 1) (.var 2)) (.bin .BitXor (.var 1) (.var 2)))]⟩
def nm_joint_truths : List Str := ["word", "first", "second"]
/-- truths_of: 0 formula, 1 names, 2 truths, 3 word, 4 many, 5 high, 6 low, 7 part -/
def ir_truths_of : Fn := ⟨2, 8,
  [.par2 3 4 (.ix (.var 0) (.con (.int 0))) (.bi .len [(.var 1)]),
   .asg (.nm 2) (.lc false (.call F_truths_of [(.var 7), (.var 1)]) (.nm 7) (.seq (.call F_own_parts [(.var 0)])) none [7]),
   .if_ (.cmp .Eq (.var 2) (.lst [])) [.ret (.call F_leaf_truths [(.var 0), (.var 1)])] [],
   .if_ (.cmp .Eq (.var 3) (.con (.str "not"))) [.ret (.bin .BitXor (.call F_whole_of [(.var 4)]) (.ix (.var 2) (.con (.int 0))))] [],
   .if_ (.cmp .In (.var 3) (.glob "JOINTS" (.tup [(.str "and"), (.str "or"), (.str "xor")]))) [.ret (.call F_joint_truths [(.var 3), (.ix (.var 2) (.con (.int 0))), (.ix (.var 2) (.con (.int 1)))])] [],
   .if_ (.cmp .Eq (.var 3) (.con (.str "if"))) [.ret (.bin .BitOr (.bin .BitAnd (.ix (.var 2) (.con (.int 0))) (.ix (.var 2) (.con (.int 1)))) (.bin .BitAnd (.bin .BitXor (.call F_whole_of [(.var 4)]) (.ix (.var 2) (.con (.int 0)))) (.ix (.var 2) (.con (.int 2)))))] [],
   .asg (.tup [5, 6]) (.call F_sides_of [(.ix (.var 2) (.neg (.con (.int 1)))), (.mt .index (.var 1) [(.ix (.var 0) (.con (.int 1)))]), (.var 4)]),
   .if_ (.cmp .Eq (.var 3) (.con (.str "put"))) [.ret (.bin .BitOr (.bin .BitAnd (.ix (.var 2) (.con (.int 0))) (.var 5)) (.bin .BitAnd (.bin .BitXor (.call F_whole_of [(.var 4)]) (.ix (.var 2) (.con (.int 0)))) (.var 6)))] [],
   .ret (.ite (.cmp .Eq (.var 3) (.con (.str "some"))) (.bin .BitOr (.var 5) (.var 6)) (.bin .BitAnd (.var 5) (.var 6)))]⟩
def nm_truths_of : List Str := ["formula", "names", "truths", "word", "many", "high", "low", "part"]
/-- row_at: 0 number, 1 names, 2 at, 3 name -/
def ir_row_at : Fn := ⟨2, 4,
  [.ret (.bi .tuple [(.bi .sorted [(.lc false (.var 3) (.tup [2, 3]) (.enum (.var 1)) (some (.bin .BitAnd (.bin .RShift (.var 0) (.var 2)) (.con (.int 1)))) [2, 3])])])]⟩
def nm_row_at : List Str := ["number", "names", "at", "name"]
/-- number_of: 0 row, 1 names, 2 at, 3 name -/
def ir_number_of : Fn := ⟨2, 4,
  [.ret (.bi .sum [(.lc false (.bin .LShift (.con (.int 1)) (.var 2)) (.tup [2, 3]) (.enum (.var 1)) (some (.cmp .In (.var 3) (.var 0))) [2, 3])])]⟩
def nm_number_of : List Str := ["row", "names", "at", "name"]
/-- rows_in: 0 truths, 1 names, 2 rows, 3 keyed, 4 number, 5 row, 6 size -/
def ir_rows_in : Fn := ⟨2, 7,
  [.asg (.nm 2) (.lc false (.call F_row_at [(.var 4), (.var 1)]) (.nm 4) (.rng (.bin .LShift (.con (.int 1)) (.bi .len [(.var 1)]))) (some (.bin .BitAnd (.bin .RShift (.var 0) (.var 4)) (.con (.int 1)))) [4]),
   .asg (.nm 3) (.bi .sorted [(.lc false (.tup [(.bi .len [(.var 5)]), (.var 5)]) (.nm 5) (.seq (.var 2)) none [5])]),
   .ret (.lc false (.var 5) (.tup [6, 5]) (.seq (.var 3)) none [5, 6])]⟩
def nm_rows_in : List Str := ["truths", "names", "rows", "keyed", "number", "row", "size"]
/-- is_yes: 0 formula, 1 row, 2 names -/
def ir_is_yes : Fn := ⟨2, 3,
  [.asg (.nm 2) (.call F_names_in [(.var 0)]),
   .if_ (.not (.call F_is_row [(.var 1)])) [.never] [],
   .ret (.cmp .Eq (.bin .BitAnd (.bin .RShift (.call F_truths_of [(.var 0), (.var 2)]) (.call F_number_of [(.var 1), (.var 2)])) (.con (.int 1))) (.con (.int 1)))]⟩
def nm_is_yes : List Str := ["formula", "row", "names"]
/-- rows_of: 0 formula, 1 order, 2 names, 3 name -/
def ir_rows_of : Fn := ⟨2, 4,
  [.asg (.nm 2) (.call F_names_in [(.var 0)]),
   .ex (.call F_need_order [(.var 1)]),
   .for_ (.nm 3) (.seq (.var 2)) [.if_ (.cmp .NotIn (.var 3) (.var 1)) [.never] []],
   .ret (.call F_rows_in [(.call F_truths_of [(.var 0), (.bi .list [(.var 1)])]), (.bi .list [(.var 1)])])]⟩
def nm_rows_of : List Str := ["formula", "order", "names", "name"]
/-- hung_names: 0 formula, 1 names, 2 truths, 3 found, 4 number, 5 name, 6 high, 7 low -/
def ir_hung_names : Fn := ⟨1, 8,
  [.asg (.nm 1) (.call F_names_in [(.var 0)]),
   .asg (.nm 2) (.call F_truths_of [(.var 0), (.var 1)]),
   .asg (.nm 3) (.nlst []),
   .for_ (.tup [4, 5]) (.enum (.var 1)) [.asg (.tup [6, 7]) (.call F_sides_of [(.var 2), (.var 4), (.bi .len [(.var 1)])]),
     .if_ (.cmp .NotEq (.var 6) (.var 7)) [.ex (.mt .append (.var 3) [(.var 5)])] []],
   .frz 3,
   .ret (.bi .tuple [(.bi .sorted [(.var 3)])])]⟩
def nm_hung_names : List Str := ["formula", "names", "truths", "found", "number", "name", "high", "low"]
/-- hangs_on: 0 formula -/
def ir_hangs_on : Fn := ⟨1, 1,
  [.ret (.call F_hung_names [(.call F_need_formula [(.var 0)])])]⟩
def nm_hangs_on : List Str := ["formula"]
/-- differ_at: 0 formula, 1 other, 2 names, 3 apart, 4 rows, 5 name -/
def ir_differ_at : Fn := ⟨2, 6,
  [.asg (.nm 2) (.call F_names_in [(.var 0)]),
   .asg (.nm 2) (.bin .Add (.var 2) (.lc false (.var 5) (.nm 5) (.seq (.call F_names_in [(.var 1)])) (some (.cmp .NotIn (.var 5) (.var 2))) [5])),
   .asg (.nm 3) (.bin .BitXor (.call F_truths_of [(.var 0), (.var 2)]) (.call F_truths_of [(.var 1), (.var 2)])),
   .asg (.nm 4) (.call F_rows_in [(.var 3), (.var 2)]),
   .ret (.ite (.cmp .Eq (.var 4) (.lst [])) (.con .non) (.ix (.var 4) (.con (.int 0))))]⟩
def nm_differ_at : List Str := ["formula", "other", "names", "apart", "rows", "name"]
/-- _law_mixed: 0 cell, 1 k, 2 number -/
def ir_law_mixed : Fn := ⟨2, 3,
  [.asg (.nm 2) (.bin .Add (.bin .Add (.bin .Mult (.bin .Mod (.var 0) (.con (.int 2147483647))) (.bin .Add (.con (.int 48271)) (.bin .Mult (.bin .Mult (.con (.int 2)) (.var 1)) (.var 1)))) (.bin .Mult (.con (.int 69621)) (.var 1))) (.con (.int 11))),
   .ret (.bin .Mod (.bin .Mult (.bin .Mod (.var 2) (.con (.int 2147483647))) (.con (.int 69621))) (.con (.int 2147483629)))]⟩
def nm_law_mixed : List Str := ["cell", "k", "number"]
/-- _law_begun: 0 script, 1 cell -/
def ir_law_begun : Fn := ⟨1, 2,
  [.ret (.ndic ["cells", "left", "at"] [(.var 0), (.lc true (.ite (.cmp .GtE (.var 1) (.bin .Pow (.con (.int 10)) (.con (.int 18)))) (.var 1) (.con (.int 0))) (.nm 1) (.seq (.var 0)) none [1]), (.con (.int 0))])]⟩
def nm_law_begun : List Str := ["script", "cell"]
/-- _law_draw: 0 state, 1 many, 2 k, 3 at, 4 number -/
def ir_law_draw : Fn := ⟨2, 5,
  [.sub (.var 0) (.con (.str "at")) (.bin .Add (.ix (.var 0) (.con (.str "at"))) (.con (.int 1))),
   .asg (.nm 2) (.ix (.var 0) (.con (.str "at"))),
   .if_ (.cmp .Eq (.ix (.var 0) (.con (.str "cells"))) (.lst [])) [.ret (.bin .Mod (.bin .FloorDiv (.call F_law_mixed [(.call F_law_mixed [(.bin .Mult (.con (.int 7919)) (.var 2)), (.bin .Mod (.var 2) (.con (.int 1000)))]), (.con (.int 7))]) (.con (.int 64))) (.var 1))] [],
   .asg (.nm 3) (.bin .Mod (.var 2) (.bi .len [(.ix (.var 0) (.con (.str "cells")))])),
   .if_ (.cmp .Gt (.ix (.ix (.var 0) (.con (.str "left"))) (.var 3)) (.con (.int 0))) [.asg (.nm 4) (.bin .Mod (.ix (.ix (.var 0) (.con (.str "left"))) (.var 3)) (.var 1)),
     .sub (.ix (.var 0) (.con (.str "left"))) (.var 3) (.bin .FloorDiv (.ix (.ix (.var 0) (.con (.str "left"))) (.var 3)) (.var 1)),
     .ret (.var 4)] [],
   .ret (.bin .Mod (.bin .FloorDiv (.call F_law_mixed [(.call F_law_mixed [(.bin .Add (.ix (.ix (.var 0) (.con (.str "cells"))) (.var 3)) (.bin .Mult (.con (.int 7919)) (.var 2))), (.bin .Mod (.var 2) (.con (.int 1000)))]), (.bin .Mod (.var 2) (.con (.int 50)))]) (.con (.int 64))) (.var 1))]⟩
def nm_law_draw : List Str := ["state", "many", "k", "at", "number"]
/-- _law_one: 0 state, 1 things -/
def ir_law_one : Fn := ⟨2, 2,
  [.ret (.ix (.var 1) (.call F_law_draw [(.var 0), (.bi .len [(.var 1)])]))]⟩
def nm_law_one : List Str := ["state", "things"]
/-- _law_word: 0 state, 1 letters, 2 word, 3 k -/
def ir_law_word : Fn := ⟨1, 4,
  [.if_ (.cmp .Eq (.call F_law_draw [(.var 0), (.con (.int 3))]) (.con (.int 0))) [.ret (.call F_law_one [(.var 0), (.lst [(.con (.str "yes")), (.con (.str "no")), (.con (.str "name")), (.con (.str "not")), (.con (.str "and")), (.con (.str "or")), (.con (.str "xor")), (.con (.str "if")), (.con (.str "put")), (.con (.str "x")), (.con (.str "y")), (.con (.str "z"))])])] [],
   .asg (.nm 1) (.con (.str "abcdefghijklmnopqrstuvwxyz")),
   .asg (.nm 2) (.mt .join (.con (.str "")) [(.lc false (.call F_law_one [(.var 0), (.var 1)]) (.nm 3) (.rng (.bin .Add (.con (.int 1)) (.call F_law_draw [(.var 0), (.con (.int 8))]))) none [3])]),
   .ret (.bin .Add (.var 2) (.bin .Mult (.con (.str "x")) (.bin .Mult (.con (.int 2)) (.bi .int [(.cmp .In (.var 2) (.tup [(.con (.str "some")), (.con (.str "all")), (.con (.str "in"))]))]))))]⟩
def nm_law_word : List Str := ["state", "letters", "word", "k"]
/-- _law_names: 0 state, 1 many, 2 found, 3 k, 4 word, 5 others, 6 letter, 7 other -/
def ir_law_names : Fn := ⟨2, 8,
  [.asg (.nm 2) (.nlst []),
   .for_ (.nm 3) (.rng (.var 1)) [.asg (.nm 4) (.call F_law_word [(.var 0)]),
     .asg (.nm 5) (.bin .Add (.lst [(.var 4)]) (.lc false (.bin .Add (.sl (.var 4) none (some (.con (.int 7)))) (.var 6)) (.nm 6) (.seq (.con (.str "abcdefghijklmnopqrstuvwxyz"))) none [6])),
     .ex (.mt .append (.var 2) [(.ix (.lc false (.var 7) (.nm 7) (.seq (.var 5)) (some (.cmp .NotIn (.var 7) (.bin .Add (.var 2) (.lst [(.con (.str "some")), (.con (.str "all")), (.con (.str "in"))])))) [7]) (.con (.int 0)))])],
   .frz 2,
   .ret (.var 2)]⟩
def nm_law_names : List Str := ["state", "many", "found", "k", "word", "others", "letter", "other"]
/-- _law_rooms: 0 state, 1 room, 2 many, 3 k, 4 found, 5 left, 6 extra -/
def ir_law_rooms : Fn := ⟨3, 7,
  [.par2 4 5 (.nlst []) (.bin .Sub (.var 1) (.var 2)),
   .for_ (.nm 3) (.rng (.var 2)) [.asg (.nm 6) (.call F_law_draw [(.var 0), (.bin .Add (.var 5) (.con (.int 1)))]),
     .ex (.mt .append (.var 4) [(.bin .Add (.con (.int 1)) (.var 6))]),
     .asg (.nm 5) (.bin .Sub (.var 5) (.var 6))],
   .frz 4,
   .ret (.var 4)]⟩
def nm_law_rooms : List Str := ["state", "room", "many", "k", "found", "left", "extra"]
/-- _law_made: 0 state, 1 names, 2 room, 3 deep, 4 way, 5 rooms, 6 parts, 7 some, 8 word, 9 one, 10 name -/
def ir_law_made : Fn := ⟨4, 11,
  [.asg (.nm 4) (.call F_law_draw [(.var 0), (.con (.int 12))]),
   .if_ (.or [(.cmp .Lt (.var 2) (.con (.int 4))), (.cmp .Eq (.var 3) (.con (.int 0))), (.cmp .Eq (.var 4) (.con (.int 0)))]) [.asg (.nm 7) (.bin .Add (.lst [(.tup [(.con (.str "yes"))]), (.tup [(.con (.str "no"))])]) (.bin .Mult (.lc false (.tup [(.con (.str "name")), (.var 10)]) (.nm 10) (.seq (.var 1)) none [10]) (.con (.int 3)))),
     .ret (.call F_law_one [(.var 0), (.var 7)])] [],
   .if_ (.cmp .In (.var 4) (.tup [(.con (.int 1)), (.con (.int 2))])) [.ret (.tup [(.con (.str "not")), (.call F_law_made [(.var 0), (.var 1), (.bin .Sub (.var 2) (.con (.int 1))), (.bin .Sub (.var 3) (.con (.int 1)))])])] [],
   .if_ (.and [(.cmp .In (.var 4) (.tup [(.con (.int 3)), (.con (.int 4))])), (.cmp .NotEq (.var 1) (.lst []))]) [.asg (.nm 8) (.call F_law_one [(.var 0), (.lst [(.con (.str "some")), (.con (.str "all"))])]),
     .ret (.tup [(.var 8), (.call F_law_one [(.var 0), (.var 1)]), (.call F_law_made [(.var 0), (.var 1), (.bin .Sub (.var 2) (.con (.int 1))), (.bin .Sub (.var 3) (.con (.int 1)))])])] [],
   .asg (.nm 5) (.call F_law_rooms [(.var 0), (.bin .Sub (.var 2) (.con (.int 1))), (.con (.int 3))]),
   .asg (.nm 6) (.lc false (.call F_law_made [(.var 0), (.var 1), (.var 9), (.bin .Sub (.var 3) (.con (.int 1)))]) (.nm 9) (.seq (.var 5)) none [9]),
   .if_ (.and [(.cmp .Eq (.var 4) (.con (.int 5))), (.cmp .NotEq (.var 1) (.lst []))]) [.ret (.tup [(.con (.str "put")), (.call F_law_one [(.var 0), (.var 1)]), (.ix (.var 6) (.con (.int 0))), (.ix (.var 6) (.con (.int 1)))])] [],
   .if_ (.cmp .In (.var 4) (.tup [(.con (.int 6)), (.con (.int 7))])) [.ret (.tup [(.con (.str "if")), (.ix (.var 6) (.con (.int 0))), (.ix (.var 6) (.con (.int 1))), (.ix (.var 6) (.con (.int 2)))])] [],
   .ret (.tup [(.call F_law_one [(.var 0), (.lst [(.con (.str "and")), (.con (.str "or")), (.con (.str "xor"))])]), (.ix (.var 6) (.con (.int 0))), (.ix (.var 6) (.con (.int 1)))])]⟩
def nm_law_made : List Str := ["state", "names", "room", "deep", "way", "rooms", "parts", "some", "word", "one", "name"]
/-- _law_with: 0 row, 1 name, 2 truth, 3 one -/
def ir_law_with : Fn := ⟨3, 4,
  [.ret (.bi .tuple [(.bi .sorted [(.bin .Add (.lc false (.var 3) (.nm 3) (.seq (.var 0)) (some (.cmp .NotEq (.var 3) (.var 1))) [3]) (.bin .Mult (.lst [(.var 1)]) (.bi .int [(.var 2)])))])])]⟩
def nm_law_with : List Str := ["row", "name", "truth", "one"]
/-- _law_yes: 0 formula, 1 row, 2 word, 3 first, 4 second, 5 one, 6 other -/
def ir_law_yes : Fn := ⟨2, 7,
  [.asg (.nm 2) (.ix (.var 0) (.con (.int 0))),
   .if_ (.cmp .In (.var 2) (.tup [(.con (.str "yes")), (.con (.str "no"))])) [.ret (.cmp .Eq (.var 2) (.con (.str "yes")))] [],
   .if_ (.cmp .Eq (.var 2) (.con (.str "name"))) [.ret (.cmp .In (.ix (.var 0) (.con (.int 1))) (.var 1))] [],
   .if_ (.cmp .In (.var 2) (.tup [(.con (.str "some")), (.con (.str "all"))])) [.asg (.nm 5) (.call F_law_yes [(.ix (.var 0) (.con (.int 2))), (.call F_law_with [(.var 1), (.ix (.var 0) (.con (.int 1))), (.con (.bl true))])]),
     .asg (.nm 6) (.call F_law_yes [(.ix (.var 0) (.con (.int 2))), (.call F_law_with [(.var 1), (.ix (.var 0) (.con (.int 1))), (.con (.bl false))])]),
     .ret (.ite (.cmp .Eq (.var 2) (.con (.str "some"))) (.or [(.var 5), (.var 6)]) (.and [(.var 5), (.var 6)]))] [],
   .if_ (.cmp .Eq (.var 2) (.con (.str "put"))) [.ret (.call F_law_yes [(.ix (.var 0) (.con (.int 3))), (.call F_law_with [(.var 1), (.ix (.var 0) (.con (.int 1))), (.call F_law_yes [(.ix (.var 0) (.con (.int 2))), (.var 1)])])])] [],
   .asg (.nm 3) (.call F_law_yes [(.ix (.var 0) (.con (.int 1))), (.var 1)]),
   .if_ (.cmp .Eq (.var 2) (.con (.str "not"))) [.ret (.not (.var 3))] [],
   .if_ (.cmp .Eq (.var 2) (.con (.str "if"))) [.ret (.call F_law_yes [(.ite (.var 3) (.ix (.var 0) (.con (.int 2))) (.ix (.var 0) (.con (.int 3)))), (.var 1)])] [],
   .asg (.nm 4) (.call F_law_yes [(.ix (.var 0) (.con (.int 2))), (.var 1)]),
   .ret (.ite (.cmp .Eq (.var 2) (.con (.str "xor"))) (.cmp .NotEq (.var 3) (.var 4)) (.ite (.cmp .Eq (.var 2) (.con (.str "and"))) (.and [(.var 3), (.var 4)]) (.or [(.var 3), (.var 4)])))]⟩
def nm_law_yes : List Str := ["formula", "row", "word", "first", "second", "one", "other"]
/-- _law_rows: 0 names, 1 rows, 2 name, 3 keyed, 4 row, 5 many -/
def ir_law_rows : Fn := ⟨1, 6,
  [.asg (.nm 1) (.lst [(.tup [])]),
   .for_ (.nm 2) (.seq (.bi .sorted [(.var 0)])) [.asg (.nm 1) (.bin .Add (.var 1) (.lc false (.bin .Add (.var 4) (.tup [(.var 2)])) (.nm 4) (.seq (.var 1)) none [4]))],
   .asg (.nm 3) (.bi .sorted [(.lc false (.tup [(.bi .len [(.var 4)]), (.var 4)]) (.nm 4) (.seq (.var 1)) none [4])]),
   .ret (.lc false (.var 4) (.tup [5, 4]) (.seq (.var 3)) none [4, 5])]⟩
def nm_law_rows : List Str := ["names", "rows", "name", "keyed", "row", "many"]
/-- _law_own: 0 formula -/
def ir_law_own : Fn := ⟨1, 1,
  [.if_ (.cmp .In (.ix (.var 0) (.con (.int 0))) (.tup [(.con (.str "yes")), (.con (.str "no")), (.con (.str "name"))])) [.ret (.lst [])] [],
   .ret (.bi .list [(.ite (.cmp .In (.ix (.var 0) (.con (.int 0))) (.tup [(.con (.str "some")), (.con (.str "all")), (.con (.str "put"))])) (.sl (.var 0) (some (.con (.int 2))) none) (.sl (.var 0) (some (.con (.int 1))) none))])]⟩
def nm_law_own : List Str := ["formula"]
/-- _law_put_in: 0 formula, 1 name, 2 other, 3 parts, 4 inner, 5 part -/
def ir_law_put_in : Fn := ⟨3, 6,
  [.if_ (.cmp .Eq (.var 0) (.tup [(.con (.str "name")), (.var 1)])) [.ret (.var 2)] [],
   .if_ (.and [(.cmp .In (.ix (.var 0) (.con (.int 0))) (.tup [(.con (.str "some")), (.con (.str "all"))])), (.cmp .Eq (.ix (.var 0) (.con (.int 1))) (.var 1))]) [.ret (.var 0)] [],
   .if_ (.cmp .Eq (.ix (.var 0) (.con (.int 0))) (.con (.str "put"))) [.asg (.nm 4) (.ite (.cmp .Eq (.ix (.var 0) (.con (.int 1))) (.var 1)) (.ix (.var 0) (.con (.int 3))) (.call F_law_put_in [(.ix (.var 0) (.con (.int 3))), (.var 1), (.var 2)])),
     .ret (.bin .Add (.sl (.var 0) none (some (.con (.int 2)))) (.tup [(.call F_law_put_in [(.ix (.var 0) (.con (.int 2))), (.var 1), (.var 2)]), (.var 4)]))] [],
   .if_ (.cmp .In (.ix (.var 0) (.con (.int 0))) (.tup [(.con (.str "some")), (.con (.str "all"))])) [.ret (.bin .Add (.sl (.var 0) none (some (.con (.int 2)))) (.tup [(.call F_law_put_in [(.ix (.var 0) (.con (.int 2))), (.var 1), (.var 2)])]))] [],
   .asg (.nm 3) (.lc false (.call F_law_put_in [(.var 5), (.var 1), (.var 2)]) (.nm 5) (.seq (.call F_law_own [(.var 0)])) none [5]),
   .ret (.ite (.cmp .Eq (.var 3) (.lst [])) (.var 0) (.bin .Add (.sl (.var 0) none (some (.con (.int 1)))) (.bi .tuple [(.var 3)])))]⟩
def nm_law_put_in : List Str := ["formula", "name", "other", "parts", "inner", "part"]
/-- _law_contrary: 0 formula, 1 word -/
def ir_law_contrary : Fn := ⟨1, 2,
  [.asg (.nm 1) (.ix (.var 0) (.con (.int 0))),
   .if_ (.cmp .In (.var 1) (.tup [(.con (.str "and")), (.con (.str "or"))])) [.ret (.tup [(.ix (.ndic ["and", "or"] [(.con (.str "or")), (.con (.str "and"))]) (.var 1)), (.tup [(.con (.str "not")), (.ix (.var 0) (.con (.int 1)))]), (.tup [(.con (.str "not")), (.ix (.var 0) (.con (.int 2)))])])] [],
   .if_ (.cmp .Eq (.var 1) (.con (.str "xor"))) [.ret (.tup [(.con (.str "xor")), (.ix (.var 0) (.con (.int 1))), (.tup [(.con (.str "not")), (.ix (.var 0) (.con (.int 2)))])])] [],
   .if_ (.cmp .In (.var 1) (.tup [(.con (.str "some")), (.con (.str "all"))])) [.ret (.tup [(.ix (.ndic ["some", "all"] [(.con (.str "all")), (.con (.str "some"))]) (.var 1)), (.ix (.var 0) (.con (.int 1))), (.tup [(.con (.str "not")), (.ix (.var 0) (.con (.int 2)))])])] [],
   .if_ (.cmp .Eq (.var 1) (.con (.str "if"))) [.ret (.tup [(.con (.str "if")), (.ix (.var 0) (.con (.int 1))), (.tup [(.con (.str "not")), (.ix (.var 0) (.con (.int 2)))]), (.tup [(.con (.str "not")), (.ix (.var 0) (.con (.int 3)))])])] [],
   .if_ (.cmp .Eq (.var 1) (.con (.str "put"))) [.ret (.bin .Add (.sl (.var 0) none (some (.con (.int 3)))) (.tup [(.tup [(.con (.str "not")), (.ix (.var 0) (.con (.int 3)))])]))] [],
   .ret (.mt .get2 (.ndic ["yes", "no"] [(.tup [(.con (.str "no"))]), (.tup [(.con (.str "yes"))])]) [(.var 1), (.ite (.cmp .Eq (.var 1) (.con (.str "not"))) (.ix (.var 0) (.con (.int 1))) (.tup [(.con (.str "not")), (.var 0)]))])]⟩
def nm_law_contrary : List Str := ["formula", "word"]
/-- _law_other: 0 state, 1 formula, 2 word, 3 some, 4 sides, 5 one, 6 two, 7 apart, 8 three, 9 side -/
def ir_law_other : Fn := ⟨2, 10,
  [.asg (.nm 2) (.ix (.var 1) (.con (.int 0))),
   .if_ (.cmp .Eq (.var 2) (.con (.str "not"))) [.ret (.call F_law_contrary [(.ix (.var 1) (.con (.int 1)))])] [],
   .if_ (.cmp .In (.var 2) (.tup [(.con (.str "and")), (.con (.str "or")), (.con (.str "xor"))])) [.par2 5 6 (.ix (.var 1) (.con (.int 1))) (.ix (.var 1) (.con (.int 2))),
     .asg (.nm 3) (.lst [(.tup [(.var 2), (.var 6), (.var 5)])]),
     .if_ (.cmp .Eq (.ix (.var 6) (.con (.int 0))) (.var 2)) [.asg (.nm 3) (.bin .Add (.var 3) (.lst [(.tup [(.var 2), (.tup [(.var 2), (.var 5), (.ix (.var 6) (.con (.int 1)))]), (.ix (.var 6) (.con (.int 2)))])]))] [],
     .if_ (.cmp .NotEq (.var 2) (.con (.str "xor"))) [.asg (.nm 3) (.bin .Add (.var 3) (.lst [(.tup [(.con (.str "not")), (.tup [(.ix (.lst [(.con (.str "or")), (.con (.str "and"))]) (.bi .int [(.cmp .Eq (.var 2) (.con (.str "or")))])), (.tup [(.con (.str "not")), (.var 5)]), (.tup [(.con (.str "not")), (.var 6)])])])])),
       .asg (.nm 3) (.bin .Add (.var 3) (.lst [(.ite (.cmp .Eq (.var 2) (.con (.str "and"))) (.tup [(.con (.str "if")), (.var 5), (.var 6), (.tup [(.con (.str "no"))])]) (.tup [(.con (.str "if")), (.var 5), (.tup [(.con (.str "yes"))]), (.var 6)]))]))] [.asg (.nm 7) (.tup [(.con (.str "or")), (.tup [(.con (.str "and")), (.var 5), (.tup [(.con (.str "not")), (.var 6)])]), (.tup [(.con (.str "and")), (.tup [(.con (.str "not")), (.var 5)]), (.var 6)])]),
       .asg (.nm 3) (.bin .Add (.var 3) (.lst [(.tup [(.con (.str "if")), (.var 5), (.tup [(.con (.str "not")), (.var 6)]), (.var 6)]), (.var 7)]))],
     .ret (.call F_law_one [(.var 0), (.var 3)])] [],
   .if_ (.cmp .Eq (.var 2) (.con (.str "if"))) [.asg (.tup [5, 6, 8]) (.sl (.var 1) (some (.con (.int 1))) none),
     .asg (.nm 3) (.lst [(.tup [(.con (.str "or")), (.tup [(.con (.str "and")), (.var 5), (.var 6)]), (.tup [(.con (.str "and")), (.tup [(.con (.str "not")), (.var 5)]), (.var 8)])]), (.tup [(.con (.str "if")), (.tup [(.con (.str "not")), (.var 5)]), (.var 8), (.var 6)])]),
     .ret (.call F_law_one [(.var 0), (.var 3)])] [],
   .if_ (.cmp .In (.var 2) (.tup [(.con (.str "some")), (.con (.str "all"))])) [.asg (.nm 4) (.lc false (.call F_law_put_in [(.ix (.var 1) (.con (.int 2))), (.ix (.var 1) (.con (.int 1))), (.var 9)]) (.nm 9) (.seq (.tup [(.tup [(.con (.str "yes"))]), (.tup [(.con (.str "no"))])])) none [9]),
     .ret (.tup [(.ite (.cmp .Eq (.var 2) (.con (.str "some"))) (.con (.str "or")) (.con (.str "and"))), (.ix (.var 4) (.con (.int 0))), (.ix (.var 4) (.con (.int 1)))])] [],
   .if_ (.cmp .Eq (.var 2) (.con (.str "put"))) [.asg (.nm 4) (.lc false (.call F_law_put_in [(.ix (.var 1) (.con (.int 3))), (.ix (.var 1) (.con (.int 1))), (.var 9)]) (.nm 9) (.seq (.tup [(.tup [(.con (.str "yes"))]), (.tup [(.con (.str "no"))])])) none [9]),
     .ret (.tup [(.con (.str "if")), (.ix (.var 1) (.con (.int 2))), (.ix (.var 4) (.con (.int 0))), (.ix (.var 4) (.con (.int 1)))])] [],
   .ret (.call F_law_one [(.var 0), (.lst [(.tup [(.con (.str "not")), (.tup [(.con (.str "not")), (.var 1)])]), (.tup [(.con (.str "and")), (.var 1), (.var 1)]), (.tup [(.con (.str "or")), (.var 1), (.tup [(.con (.str "no"))])])])])]⟩
def nm_law_other : List Str := ["state", "formula", "word", "some", "sides", "one", "two", "apart", "three", "side"]
/-- _law_turned: 0 state, 1 formula, 2 some, 3 at -/
def ir_law_turned : Fn := ⟨2, 4,
  [.asg (.nm 2) (.call F_law_own [(.var 1)]),
   .if_ (.or [(.cmp .Eq (.var 2) (.lst [])), (.cmp .Eq (.call F_law_draw [(.var 0), (.con (.int 3))]) (.con (.int 0)))]) [.ret (.call F_law_other [(.var 0), (.var 1)])] [],
   .asg (.nm 3) (.bin .Add (.bin .Sub (.bi .len [(.var 1)]) (.bi .len [(.var 2)])) (.call F_law_draw [(.var 0), (.bi .len [(.var 2)])])),
   .ret (.bin .Add (.bin .Add (.sl (.var 1) none (some (.var 3))) (.tup [(.call F_law_turned [(.var 0), (.ix (.var 1) (.var 3))])])) (.sl (.var 1) (some (.bin .Add (.var 3) (.con (.int 1)))) none))]⟩
def nm_law_turned : List Str := ["state", "formula", "some", "at"]
/-- _law_called: 0 formula, 1 names, 2 own, 3 head, 4 part -/
def ir_law_called : Fn := ⟨2, 5,
  [.if_ (.cmp .Eq (.ix (.var 0) (.con (.int 0))) (.con (.str "name"))) [.ret (.tup [(.con (.str "name")), (.ix (.var 1) (.ix (.var 0) (.con (.int 1))))])] [],
   .asg (.nm 2) (.lc false (.call F_law_called [(.var 4), (.var 1)]) (.nm 4) (.seq (.call F_law_own [(.var 0)])) none [4]),
   .asg (.nm 3) (.ite (.cmp .In (.ix (.var 0) (.con (.int 0))) (.tup [(.con (.str "some")), (.con (.str "all")), (.con (.str "put"))])) (.tup [(.ix (.var 0) (.con (.int 0))), (.ix (.var 1) (.ix (.var 0) (.con (.int 1))))]) (.sl (.var 0) none (some (.con (.int 1))))),
   .ret (.bin .Add (.var 3) (.bi .tuple [(.var 2)]))]⟩
def nm_law_called : List Str := ["formula", "names", "own", "head", "part"]
/-- _law_many: 0 formula, 1 part -/
def ir_law_many : Fn := ⟨1, 2,
  [.ret (.bin .Add (.con (.int 1)) (.bi .sum [(.lc false (.call F_law_many [(.var 1)]) (.nm 1) (.seq (.call F_law_own [(.var 0)])) none [1])]))]⟩
def nm_law_many : List Str := ["formula", "part"]
/-- _law_deep: 0 formula, 1 part -/
def ir_law_deep : Fn := ⟨1, 2,
  [.ret (.bi .max [(.bin .Add (.lst [(.con (.int 0))]) (.lc false (.bin .Add (.con (.int 1)) (.call F_law_deep [(.var 1)])) (.nm 1) (.seq (.call F_law_own [(.var 0)])) none [1]))])]⟩
def nm_law_deep : List Str := ["formula", "part"]
/-- law: 0 script, 1 state, 2 turn, 3 names, 4 formula, 5 other, 6 k, 7 order, 8 row, 9 fresh, 10 called, 11 due, 12 keyed, 13 later, 14 one, 15 many, 16 name -/
def ir_law : Fn := ⟨1, 17,
  [.asg (.nm 1) (.call F_law_begun [(.var 0)]),
   .for_ (.nm 2) (.rng (.bin .Add (.con (.int 1)) (.bi .min [(.con (.int 15)), (.bi .len [(.var 0)])]))) [.asg (.nm 3) (.call F_law_names [(.var 1), (.bin .Add (.con (.int 1)) (.call F_law_draw [(.var 1), (.con (.int 4))]))]),
     .asg (.nm 4) (.call F_law_made [(.var 1), (.var 3), (.bin .Add (.con (.int 1)) (.call F_law_draw [(.var 1), (.con (.int 12))])), (.call F_law_draw [(.var 1), (.con (.int 5))])]),
     .asg (.nm 5) (.var 4),
     .for_ (.nm 6) (.rng (.bin .Add (.con (.int 1)) (.call F_law_draw [(.var 1), (.con (.int 6))]))) [.asg (.nm 13) (.call F_law_turned [(.var 1), (.var 5)]),
       .asg (.nm 5) (.ite (.and [(.cmp .Lt (.call F_law_many [(.var 13)]) (.con (.int 50))), (.cmp .Lt (.call F_law_deep [(.var 13)]) (.con (.int 9)))]) (.var 13) (.var 5))],
     .asg (.nm 7) (.bi .tuple [(.var 3)]),
     .if_ (.or [(.cmp .IsNot (.call F_differ_at [(.var 4), (.var 5)]) (.con .non)), (.cmp .IsNot (.call F_differ_at [(.var 5), (.var 4)]) (.con .non))]) [.ret (.con (.bl false))] [],
     .if_ (.or [(.cmp .NotEq (.call F_rows_of [(.var 4), (.var 7)]) (.call F_rows_of [(.var 5), (.var 7)])), (.cmp .NotEq (.call F_hangs_on [(.var 4)]) (.call F_hangs_on [(.var 5)]))]) [.ret (.con (.bl false))] [],
     .asg (.nm 8) (.call F_law_one [(.var 1), (.call F_law_rows [(.var 3)])]),
     .if_ (.cmp .IsNot (.call F_differ_at [(.var 5), (.tup [(.con (.str "xor")), (.var 4), (.tup [(.con (.str "if")), (.tup [(.con (.str "yes"))]), (.tup [(.con (.str "no"))]), (.tup [(.con (.str "no"))])])])]) (.con .non)) [.ret (.con (.bl false))] [],
     .if_ (.cmp .NotEq (.bi .repr [(.call F_is_yes [(.var 4), (.var 8)])]) (.bi .repr [(.call F_law_yes [(.var 5), (.var 8)])])) [.ret (.con (.bl false))] [],
     .asg (.nm 9) (.call F_law_names [(.var 1), (.bi .len [(.var 3)])]),
     .asg (.nm 10) (.call F_law_called [(.var 5), (.bi .dict [(.lc false (.tup [(.ix (.var 3) (.var 6)), (.ix (.var 9) (.var 6))]) (.nm 6) (.rng (.bi .len [(.var 3)])) none [6])])]),
     .asg (.nm 11) (.lc false (.bi .tuple [(.bi .sorted [(.lc false (.ix (.var 9) (.mt .index (.var 3) [(.var 16)])) (.nm 16) (.seq (.var 14)) none [16])])]) (.nm 14) (.seq (.call F_rows_of [(.var 4), (.var 7)])) none [14]),
     .asg (.nm 12) (.bi .sorted [(.lc false (.tup [(.bi .len [(.var 14)]), (.var 14)]) (.nm 14) (.seq (.var 11)) none [14])]),
     .if_ (.cmp .NotEq (.call F_rows_of [(.var 10), (.bi .tuple [(.rev (.var 9))])]) (.lc false (.var 14) (.tup [15, 14]) (.seq (.var 12)) none [14, 15])) [.ret (.con (.bl false))] []],
   .ret (.con (.bl true))]⟩
def nm_law : List Str := ["script", "state", "turn", "names", "formula", "other", "k", "order", "row", "fresh", "called", "due", "keyed", "later", "one", "many", "name"]
def tab : Tab := [ir_is_name,
  ir_is_row,
  ir_has_form,
  ir_own_parts,
  ir_walked,
  ir_need_formula,
  ir_need_order,
  ir_names_in,
  ir_mask_of,
  ir_sides_of,
  ir_whole_of,
  ir_leaf_truths,
  ir_joint_truths,
  ir_truths_of,
  ir_row_at,
  ir_number_of,
  ir_rows_in,
  ir_is_yes,
  ir_rows_of,
  ir_hung_names,
  ir_hangs_on,
  ir_differ_at,
  ir_law_mixed,
  ir_law_begun,
  ir_law_draw,
  ir_law_one,
  ir_law_word,
  ir_law_names,
  ir_law_rooms,
  ir_law_made,
  ir_law_with,
  ir_law_yes,
  ir_law_rows,
  ir_law_own,
  ir_law_put_in,
  ir_law_contrary,
  ir_law_other,
  ir_law_turned,
  ir_law_called,
  ir_law_many,
  ir_law_deep,
  ir_law]
def topS (i : Nat) : Stmt := PySem.Challenge.pw_knotweb_k08_whole_same_by_rules.main.body.getD i (.Pass ⟨0, 0, 0, 0⟩)
abbrev fr_is_name : FR := ⟨"is_name", topS 14, nm_is_name, ["thing"]⟩
abbrev fr_is_row : FR := ⟨"is_row", topS 15, nm_is_row, ["thing"]⟩
abbrev fr_has_form : FR := ⟨"has_form", topS 16, nm_has_form, ["thing"]⟩
abbrev fr_own_parts : FR := ⟨"own_parts", topS 17, nm_own_parts, ["formula"]⟩
abbrev fr_walked : FR := ⟨"walked", topS 18, nm_walked, ["thing"]⟩
abbrev fr_need_formula : FR := ⟨"need_formula", topS 19, nm_need_formula, ["thing"]⟩
abbrev fr_need_order : FR := ⟨"need_order", topS 20, nm_need_order, ["thing"]⟩
abbrev fr_names_in : FR := ⟨"names_in", topS 21, nm_names_in, ["formula"]⟩
abbrev fr_mask_of : FR := ⟨"mask_of", topS 22, nm_mask_of, ["number", "many"]⟩
abbrev fr_sides_of : FR := ⟨"sides_of", topS 23, nm_sides_of, ["truths", "number", "many"]⟩
abbrev fr_whole_of : FR := ⟨"whole_of", topS 24, nm_whole_of, ["many"]⟩
abbrev fr_leaf_truths : FR := ⟨"leaf_truths", topS 25, nm_leaf_truths, ["formula", "names"]⟩
abbrev fr_joint_truths : FR := ⟨"joint_truths", topS 26, nm_joint_truths, ["word", "first", "second"]⟩
abbrev fr_truths_of : FR := ⟨"truths_of", topS 27, nm_truths_of, ["formula", "names"]⟩
abbrev fr_row_at : FR := ⟨"row_at", topS 28, nm_row_at, ["number", "names"]⟩
abbrev fr_number_of : FR := ⟨"number_of", topS 29, nm_number_of, ["row", "names"]⟩
abbrev fr_rows_in : FR := ⟨"rows_in", topS 30, nm_rows_in, ["truths", "names"]⟩
abbrev fr_is_yes : FR := ⟨"is_yes", topS 31, nm_is_yes, ["formula", "row"]⟩
abbrev fr_rows_of : FR := ⟨"rows_of", topS 32, nm_rows_of, ["formula", "order"]⟩
abbrev fr_hung_names : FR := ⟨"hung_names", topS 33, nm_hung_names, ["formula"]⟩
abbrev fr_hangs_on : FR := ⟨"hangs_on", topS 34, nm_hangs_on, ["formula"]⟩
abbrev fr_differ_at : FR := ⟨"differ_at", topS 35, nm_differ_at, ["formula", "other"]⟩
abbrev fr_law_mixed : FR := ⟨"_law_mixed", topS 37, nm_law_mixed, ["cell", "k"]⟩
abbrev fr_law_begun : FR := ⟨"_law_begun", topS 38, nm_law_begun, ["script"]⟩
abbrev fr_law_draw : FR := ⟨"_law_draw", topS 39, nm_law_draw, ["state", "many"]⟩
abbrev fr_law_one : FR := ⟨"_law_one", topS 40, nm_law_one, ["state", "things"]⟩
abbrev fr_law_word : FR := ⟨"_law_word", topS 41, nm_law_word, ["state"]⟩
abbrev fr_law_names : FR := ⟨"_law_names", topS 42, nm_law_names, ["state", "many"]⟩
abbrev fr_law_rooms : FR := ⟨"_law_rooms", topS 43, nm_law_rooms, ["state", "room", "many"]⟩
abbrev fr_law_made : FR := ⟨"_law_made", topS 44, nm_law_made, ["state", "names", "room", "deep"]⟩
abbrev fr_law_with : FR := ⟨"_law_with", topS 45, nm_law_with, ["row", "name", "truth"]⟩
abbrev fr_law_yes : FR := ⟨"_law_yes", topS 46, nm_law_yes, ["formula", "row"]⟩
abbrev fr_law_rows : FR := ⟨"_law_rows", topS 47, nm_law_rows, ["names"]⟩
abbrev fr_law_own : FR := ⟨"_law_own", topS 48, nm_law_own, ["formula"]⟩
abbrev fr_law_put_in : FR := ⟨"_law_put_in", topS 50, nm_law_put_in, ["formula", "name", "other"]⟩
abbrev fr_law_contrary : FR := ⟨"_law_contrary", topS 51, nm_law_contrary, ["formula"]⟩
abbrev fr_law_other : FR := ⟨"_law_other", topS 52, nm_law_other, ["state", "formula"]⟩
abbrev fr_law_turned : FR := ⟨"_law_turned", topS 53, nm_law_turned, ["state", "formula"]⟩
abbrev fr_law_called : FR := ⟨"_law_called", topS 54, nm_law_called, ["formula", "names"]⟩
abbrev fr_law_many : FR := ⟨"_law_many", topS 55, nm_law_many, ["formula"]⟩
abbrev fr_law_deep : FR := ⟨"_law_deep", topS 56, nm_law_deep, ["formula"]⟩
abbrev fr_law : FR := ⟨"law", topS 57, nm_law, ["script"]⟩
def rows : List FR := [fr_is_name,
  fr_is_row,
  fr_has_form,
  fr_own_parts,
  fr_walked,
  fr_need_formula,
  fr_need_order,
  fr_names_in,
  fr_mask_of,
  fr_sides_of,
  fr_whole_of,
  fr_leaf_truths,
  fr_joint_truths,
  fr_truths_of,
  fr_row_at,
  fr_number_of,
  fr_rows_in,
  fr_is_yes,
  fr_rows_of,
  fr_hung_names,
  fr_hangs_on,
  fr_differ_at,
  fr_law_mixed,
  fr_law_begun,
  fr_law_draw,
  fr_law_one,
  fr_law_word,
  fr_law_names,
  fr_law_rooms,
  fr_law_made,
  fr_law_with,
  fr_law_yes,
  fr_law_rows,
  fr_law_own,
  fr_law_put_in,
  fr_law_contrary,
  fr_law_other,
  fr_law_turned,
  fr_law_called,
  fr_law_many,
  fr_law_deep,
  fr_law]
def con : List (Str × D) := [("SMALL", (.str "abcdefghijklmnopqrstuvwxyz")),
  ("MOST_LETTERS", (.int 8)),
  ("MOST_NAMES", (.int 10)),
  ("MOST_PARTS", (.int 60)),
  ("MOST_WITHIN", (.int 9)),
  ("BINDERS", (.tup [(.str "some"), (.str "all"), (.str "put")])),
  ("JOINTS", (.tup [(.str "and"), (.str "or"), (.str "xor")]))]
def dic : List (Str × List (Str × Int)) := [("LENGTHS", [(("yes" : Str), 1), (("no" : Str), 1), (("name" : Str), 2), (("not" : Str), 2), (("and" : Str), 3), (("or" : Str), 3), (("xor" : Str), 3), (("if" : Str), 4), (("some" : Str), 3), (("all" : Str), 3), (("put" : Str), 4)])]
theorem ck_all : ckFs (rows.map (·.x)) con dic rows tab = true := by decide +kernel
end Kw

set_option Elab.async false
set_option linter.all false
set_option maxRecDepth 100000
set_option maxHeartbeats 2000000
namespace Kw
open PySem

/-! ### running a def -/
theorem R.bind_some {α β : Type} {a : α} {st : Store} {f : α → Store → R β} : R.bind (some (a, st)) f = f a st := rfl
theorem retOf_self {d : D} {st : Store} : retOf st.length d st = some (d, st) := by
  unfold retOf
  rw [List.take_length]
  split <;> rfl
theorem run_def {k i : Nat} {f : Fn} {ds : List D} {st : Store} (h : tab[i]? = some f) : cfN tab (k + 1) i ds st = runF (cfN tab k) f ds st := by
  show (match tab[i]? with
    | some f => runF (cfN tab k) f ds st
    | none => none) = _
  rw [h]
theorem run_rt {k i : Nat} {f : Fn} {ds : List D} {st : Store} {d : D} (h : tab[i]? = some f) (hl : ds.length = f.np) (e : evSs (cfN tab k) f.body (ds.map some ++ List.replicate (f.nn - f.np) none) st = some (.rt d, st)) : cfN tab (k + 1) i ds st = some (d, st) := by
  rw [run_def h]
  unfold runF
  rw [if_pos hl, e]
  exact retOf_self
section
variable {cf : CF} {env : Env} {st : Store}
theorem x_var {i : Nat} : evE cf (.var i) env st = match env[i]? with
    | some (some d) => some (d, st)
    | _ => none := by rw [evE] <;> rfl
theorem x_con {d : D} : evE cf (.con d) env st = some (d, st) := by rw [evE]
theorem x_glob {x : Str} {d : D} : evE cf (.glob x d) env st = some (d, st) := by rw [evE]
theorem x_tup {es : List E} : evE cf (.tup es) env st = R.bind (evEs cf es env st) fun ds st => some (.tup ds, st) := by rw [evE]
theorem x_lst {es : List E} : evE cf (.lst es) env st = R.bind (evEs cf es env st) fun ds st => some (.lst ds, st) := by rw [evE]
theorem x_nlst {es : List E} : evE cf (.nlst es) env st = R.bind (evEs cf es env st) fun ds st => if D.unds st.length ds then some (.ref st.length, st ++ [.lst ds]) else none := by rw [evE]
theorem x_ndic {ks : List Str} {es : List E} : evE cf (.ndic ks es) env st = R.bind (evEs cf es env st) fun ds st => if D.unds st.length ds && decide (ks.length = ds.length) && decide (ks.length ≤ 15) then
      some (.ref st.length, st ++ [.dK (mergeD [] ((ks.map Sum.inr).zip ds))]) else none := by rw [evE]
theorem x_bin {op : Operator} {a b : E} : evE cf (.bin op a b) env st = R.bind (evE cf a env st) fun x st => R.bind (evE cf b env st) fun y st => (binD op (rd st x) (rd st y)).map fun z => (z, st) := by rw [evE]
theorem x_neg {a : E} : evE cf (.neg a) env st = R.bind (evE cf a env st) fun x st => match x with
    | .int i => some (.int (-i), st)
    | _ => none := by rw [evE] <;> rfl
theorem x_inv {a : E} : evE cf (.inv a) env st = R.bind (evE cf a env st) fun x st => match x with
    | .int i => some (.int (Builtin.bitNot i), st)
    | _ => none := by rw [evE] <;> rfl
theorem x_cmp {op : CmpOp} {a b : E} : evE cf (.cmp op a b) env st = R.bind (evE cf a env st) fun x st => R.bind (evE cf b env st) fun y st => (cmpD op st x y).map fun z => (.bl z, st) := by rw [evE]
theorem x_cmp2 {op op' : CmpOp} {a b c : E} : evE cf (.cmp2 op op' a b c) env st = R.bind (evE cf a env st) fun x st => R.bind (evE cf b env st) fun y st => match cmpD op st x y with
    | some true => R.bind (evE cf c env st) fun z st => (cmpD op' st y z).map fun w => (.bl w, st)
    | some false => some (.bl false, st)
    | none => none := by rw [evE] <;> rfl
theorem x_not {a : E} : evE cf (.not a) env st = R.bind (evE cf a env st) fun x st => x.truth.map fun b => (.bl (!b), st) := by rw [evE]
theorem x_ite {c a b : E} : evE cf (.ite c a b) env st = R.bind (evE cf c env st) fun x st => match x.truth with
    | some true => evE cf a env st
    | some false => evE cf b env st
    | none => none := by rw [evE] <;> rfl
theorem x_ix {a b : E} : evE cf (.ix a b) env st = R.bind (evE cf a env st) fun x st => R.bind (evE cf b env st) fun y st => (ixD st x y).map fun z => (z, st) := by rw [evE]
theorem x_sl {a : E} {lo hi : Option E} : evE cf (.sl a lo hi) env st = R.bind (evE cf a env st) fun x st => R.bind (evO cf lo env st) fun l st => R.bind (evO cf hi env st) fun h st =>
      (slD (rd st x) l h).map fun z => (z, st) := by rw [evE]
theorem x_call {f : Nat} {es : List E} : evE cf (.call f es) env st = R.bind (evEs cf es env st) fun ds st => cf f ds st := by rw [evE]
theorem x_bi {b : Bi} {es : List E} : evE cf (.bi b es) env st = R.bind (evEs cf es env st) fun ds st => biD b ds st := by rw [evE]
theorem x_mt {m : Mt} {o : E} {es : List E} : evE cf (.mt m o es) env st = R.bind (evE cf o env st) fun x st => if mtTy m x st then R.bind (evEs cf es env st) fun ds st => mtD m x ds st else none := by rw [evE]
theorem x_kget {x : Str} {t : List (Str × Int)} {k d : E} : evE cf (.kget x t k d) env st = R.bind (evE cf k env st) fun x st => R.bind (evE cf d env st) fun y st => match x with
    | .str s => some (((t.lookup s).map D.int).getD y, st)
    | _ => none := by rw [evE] <;> rfl
theorem x_and {es : List E} : evE cf (.and es) env st = evAnd cf es env st := by rw [evE]
theorem x_or {es : List E} : evE cf (.or es) env st = evOr cf es env st := by rw [evE]
theorem x_and1 {e : E} : evAnd cf [e] env st = evE cf e env st := by rw [evAnd]
theorem x_or1 {e : E} : evOr cf [e] env st = evE cf e env st := by rw [evOr]
theorem x_Es0 : evEs cf [] env st = some ([], st) := by rw [evEs]
theorem x_Es1 {e : E} {es : List E} : evEs cf (e :: es) env st = R.bind (evE cf e env st) fun d st => R.bind (evEs cf es env st) fun ds st => some (d :: ds, st) := by rw [evEs]
theorem x_O0 : evO cf none env st = some (none, st) := by rw [evO]
theorem x_O1 {e : E} : evO cf (some e) env st = R.bind (evE cf e env st) fun x st => match x with
    | .int i => some (some i, st)
    | _ => none := by rw [evO] <;> rfl
theorem x_C0 : evC cf none env st = some (true, st) := by rw [evC]
theorem x_C1 {e : E} : evC cf (some e) env st = R.bind (evE cf e env st) fun x st => x.truth.map fun b => (b, st) := by rw [evC]
theorem x_asg {g : G} {e : E} : evS cf (.asg g e) env st = R.bind (evE cf e env st) fun x st => (asgG g x env).map fun env => (.nx env, st) := by rw [evS]
theorem x_par2 {i j : Nat} {a b : E} : evS cf (.par2 i j a b) env st = R.bind (evE cf a env st) fun x st => R.bind (evE cf b env st) fun y st =>
      if i < env.length ∧ j < env.length then some (.nx ((env.set i (some x)).set j (some y)), st) else none := by rw [evS]
theorem x_aug {i : Nat} {op : Operator} {e : E} : evS cf (.aug i op e) env st = match env[i]? with
    | some (some x) => R.bind (evE cf e env st) fun y st => match x, y with
      | .int a, .int b => (binD op (.int a) (.int b)).map fun z => (.nx (env.set i (some z)), st)
      | _, _ => none
    | _ => none := by rw [evS] <;> rfl
theorem x_sub {o i e : E} : evS cf (.sub o i e) env st = R.bind (evE cf e env st) fun v st => R.bind (evE cf o env st) fun ov st => R.bind (evE cf i env st) fun iv st =>
      (subD ov iv v st).map fun st => (.nx env, st) := by rw [evS]
theorem x_if {c : E} {a b : List S} : evS cf (.if_ c a b) env st = R.bind (evE cf c env st) fun x st => match x.truth with
    | some true => evSs cf a env st
    | some false => evSs cf b env st
    | none => none := by rw [evS] <;> rfl
theorem x_for {g : G} {it : It} {b : List S} : evS cf (.for_ g it b) env st = R.bind (evI cf it env st) fun ds st => evFor g (fun env st => evSs cf b env st) ds env st := by rw [evS]
theorem x_while {c : E} {b : List S} : evS cf (.while_ c b) env st = evWh (fun env st => R.bind (evE cf c env st) fun x st => x.truth.map fun b => (b, st)) (fun env st => evSs cf b env st) FU env st := by rw [evS]
theorem x_ret {e : E} : evS cf (.ret e) env st = R.bind (evE cf e env st) fun x st => some (.rt x, st) := by rw [evS]
theorem x_ex {e : E} : evS cf (.ex e) env st = R.bind (evE cf e env st) fun _ st => some (.nx env, st) := by rw [evS]
theorem x_never : evS cf .never env st = none := by rw [evS]
theorem x_frz {i : Nat} : evS cf (.frz i) env st = match env[i]? with
    | some (some (.lst _)) => some (.nx env, st)
    | some (some (.ref l)) => match st[l]? with
      | some (.lst ds) => some (.nx (env.set i (some (.lst ds))), st.set l .dead)
      | _ => none
    | _ => none := by rw [evS] <;> rfl
theorem x_Ss0 : evSs cf [] env st = some (.nx env, st) := by rw [evSs]
theorem x_Ss1 {s : S} {ss : List S} : evSs cf (s :: ss) env st = R.bind (evS cf s env st) fun fl st => match fl with
    | .nx env => evSs cf ss env st
    | .rt d => some (.rt d, st)
    | .bk e => some (.bk e, st)
    | .ct e => some (.ct e, st) := by rw [evSs] <;> rfl
theorem asg_nm {i : Nat} {d : D} : asgG (.nm i) d env = if i < env.length then some (env.set i (some d)) else none := rfl
theorem asg_tup {is : List Nat} {ds : List D} : asgG (.tup is) (.tup ds) env = asgNs is ds env := rfl
theorem asgs_nil : asgNs [] [] env = some env := rfl
theorem asgs_cons {i : Nat} {is : List Nat} {d : D} {ds : List D} : asgNs (i :: is) (d :: ds) env = if i < env.length then asgNs is ds (env.set i (some d)) else none := rfl
theorem rd'_int {i : Int} : rd st (.int i) = .int i := rfl
theorem rd'_str {s : Str} : rd st (.str s) = .str s := rfl
theorem rd'_tup {s : List D} : rd st (.tup s) = .tup s := rfl
theorem rd_lst' {s : List D} : rd st (.lst s) = .lst s := rfl
theorem rd_bl {b : Bool} : rd st (.bl b) = .bl b := rfl
theorem rd_non : rd st .non = .non := rfl
theorem rd_scr {s : List Int} : rd st (.scr s) = .scr s := rfl
theorem t_bl {b : Bool} : D.truth (.bl b) = some b := rfl
theorem t_int {i : Int} : D.truth (.int i) = some (i != 0) := rfl
theorem t_non : D.truth .non = some false := rfl
theorem if_true' {α : Type} {a b : α} : (if True then a else b) = a := rfl
theorem if_false' {α : Type} {a b : α} : (if False then a else b) = b := rfl
/-! comprehensions, loops -/
theorem x_lc {mu : Bool} {elt : E} {g : G} {it : It} {c : Option E} {own : List Nat} : evE cf (.lc mu elt g it c own) env st = R.bind (evI cf it env st) fun ds st => R.bind (evLc (lcF (evC cf c) (evE cf elt) g own env) ds st) fun ys st =>
      if ys.length ≤ LIM then (if mu then (if D.unds st.length ys then some (.ref st.length, st ++ [.lst ys]) else none) else some (.lst ys, st)) else none := by rw [evE] <;> rfl
/-- a comprehension that changes nothing -/
theorem lc_pure {f : D → Store → R (Option D)} {g : D → Option D} : ∀ {ds : List D}, (∀ d ∈ ds, f d st = some (g d, st)) → evLc f ds st = some (ds.filterMap g, st)
  | [], _ => rfl
  | d :: ds, h => by
    rw [evLc, h d List.mem_cons_self, R.bind_some, lc_pure fun e he => h e (List.mem_cons_of_mem _ he), R.bind_some, List.filterMap_cons]
    cases g d <;> rfl
theorem lcF_no {evc : Env → Store → R Bool} {eve : Env → Store → R D} {g : G} {own : List Nat} {x : D} {env1 : Env} (h : asgG g x (wipeD env own) = some env1) : lcF evc eve g own env x st = R.bind (evc env1 st) fun b st => if b then R.bind (eve env1 st) fun y st => some (some y, st) else some (none, st) := by
  unfold lcF
  rw [h]
/-- .. all items -/
theorem x_lcp {elt : E} {g : G} {it : It} {own : List Nat} {ds : List D} {h : D → D} (hi : evI cf it env st = some (ds, st)) (hl : ds.length ≤ LIM) (he : ∀ d ∈ ds, ∃ env1, asgG g d (wipeD env own) = some env1 ∧ evE cf elt env1 st = some (h d, st)) :
    evE cf (.lc false elt g it none own) env st = some (.lst (ds.map h), st) := by
  rw [x_lc, hi, R.bind_some, lc_pure (g := fun d => some (h d)) (fun d hd => ?_), R.bind_some]
  · rw [if_pos (by simpa using hl)]
    simp
  · obtain ⟨env1, e1, e2⟩ := he d hd
    rw [lcF_no e1, x_C0, R.bind_some, if_pos rfl, e2, R.bind_some]
/-- .. with a test -/
theorem x_lcf {elt c : E} {g : G} {it : It} {own : List Nat} {ds : List D} {h : D → D} {p : D → Bool} (hi : evI cf it env st = some (ds, st)) (hl : ds.length ≤ LIM) (he : ∀ d ∈ ds, ∃ env1 x, asgG g d (wipeD env own) = some env1 ∧ evE cf c env1 st = some (x, st) ∧ x.truth = some (p d) ∧ (p d = true → evE cf elt env1 st = some (h d, st))) :
    evE cf (.lc false elt g it (some c) own) env st = some (.lst ((ds.filter p).map h), st) := by
  rw [x_lc, hi, R.bind_some, lc_pure (g := fun d => if p d then some (h d) else none) (fun d hd => ?_), R.bind_some]
  · have e : ds.filterMap (fun d => if p d then some (h d) else none) = (ds.filter p).map h := by
      rw [← List.filterMap_eq_map, List.filterMap_filter]
      rfl
    rw [e, if_pos (by
      rw [List.length_map]
      exact Nat.le_trans (List.length_filter_le _ _) hl)]
    rfl
  · obtain ⟨env1, x, e1, e2, e3, e4⟩ := he d hd
    rw [lcF_no e1, x_C1, e2, R.bind_some, e3, Option.map_some, R.bind_some]
    cases q : p d with
    | true => rw [if_pos rfl, e4 q, R.bind_some, if_pos rfl]
    | false => rw [if_neg Bool.false_ne_true, if_neg Bool.false_ne_true]
theorem x_seq {e : E} : evI cf (.seq e) env st = R.bind (evE cf e env st) fun x st => (itemsOf x).map fun ds => (ds, st) := by rw [evI]
theorem x_rng {e : E} : evI cf (.rng e) env st = R.bind (evE cf e env st) fun x st => match x with
    | .int j => if rngOk j then some (rngD 0 j, st) else none
    | _ => none := by rw [evI] <;> rfl
theorem x_rrng {e : E} : evI cf (.rrng e) env st = R.bind (evE cf e env st) fun x st => match x with
    | .int j => if rngOk j then some ((rngD 0 j).reverse, st) else none
    | _ => none := by rw [evI] <;> rfl
theorem x_enum {e : E} : evI cf (.enum e) env st = R.bind (evE cf e env st) fun x st => match x with
    | .lst ds => some (enumD 0 ds, st)
    | .tup ds => some (enumD 0 ds, st)
    | _ => none := by rw [evI] <;> rfl
theorem x_zip {a b : E} : evI cf (.zip a b) env st = R.bind (evE cf a env st) fun x st => R.bind (evE cf b env st) fun y st => match x, y with
    | .lst ds, .lst es => some (zipD ds es, st)
    | .tup ds, .tup es => some (zipD ds es, st)
    | _, _ => none := by rw [evI] <;> rfl
end
theorem intBits_le {i : Int} {n : Nat} (h : i.natAbs < 2 ^ n) : Builtin.Int.intBits i ≤ n := by
  unfold Builtin.Int.intBits
  split
  · exact Nat.zero_le _
  · rename_i hz
    have : i.natAbs ≠ 0 := fun z => hz (by simpa using z)
    have q := (Nat.log2_lt this).mpr h
    omega
theorem d_shl {a b : Nat} {n : Nat} (ha : a < 2 ^ n) (hb : n + b ≤ 2 ^ 27) : binD .LShift (.int a) (.int b) = some (.int ((a <<< b : Nat) : Int)) := by
  have h := intBits_le (i := (a : Int)) (n := n) (by simpa using ha)
  simp only [binD]
  rw [if_pos ⟨by omega, by have : ((2 : Int) ^ 27) = 134217728 := by decide
                           have : (2 : Nat) ^ 27 = 134217728 := by decide
                           omega⟩]
  rw [Int.toNat_natCast, Nat.shiftLeft_eq]
  simp
theorem d_shr {a b : Nat} : binD .RShift (.int a) (.int b) = some (.int ((a >>> b : Nat) : Int)) := by
  simp only [binD]
  rw [if_pos (by omega), Int.toNat_natCast, Nat.shiftRight_eq_div_pow]
  simp
theorem bitAnd_nat (a b : Nat) : Builtin.bitAnd a b = ((a &&& b : Nat) : Int) := by
  unfold Builtin.bitAnd
  simp
theorem bitOr_nat (a b : Nat) : Builtin.bitOr a b = ((a ||| b : Nat) : Int) := by
  rw [L2.bitOr_nn (by omega) (by omega)]
  simp
end Kw

set_option Elab.async false
set_option linter.all false
set_option maxRecDepth 100000
set_option maxHeartbeats 2000000
namespace Kw
open PySem

/-! ### data that == may be asked of; what == answers -/
mutual
/-- texts, ints, tuples, lists of such, n deep -/
inductive Pl : Nat → D → Prop
  | int (n : Nat) (i : Int) : Pl n (.int i)
  | str (n : Nat) {s : Str} : PyData.strOk s = true → Pl n (.str s)
  | tup {n : Nat} {ds : List D} : Pls n ds → Pl (n + 1) (.tup ds)
  | lst {n : Nat} {ds : List D} : Pls n ds → Pl (n + 1) (.lst ds)
inductive Pls : Nat → List D → Prop
  | nil (n : Nat) : Pls n []
  | cons {n : Nat} {d : D} {ds : List D} : Pl n d → Pls n ds → Pls n (d :: ds)
end
mutual
theorem Pl.clean : ∀ {n : Nat} {d : D}, Pl n d → d.clean = true
  | _, _, .int _ _ => rfl
  | _, _, .str _ _ => rfl
  | _, _, .tup h => by rw [D.clean]; exact Pls.cleans h
  | _, _, .lst h => by rw [D.clean]; exact Pls.cleans h
theorem Pls.cleans : ∀ {n : Nat} {ds : List D}, Pls n ds → D.cleans ds = true
  | _, _, .nil _ => rfl
  | _, _, .cons h t => by rw [D.cleans, Pl.clean h, Pls.cleans t]; rfl
end
mutual
theorem Pl.can : ∀ {n : Nat} {d : D}, Pl n d → d.py.canLay0 = true
  | _, _, .int _ _ => by rw [D.py, PyData.canLay0]
  | _, _, .str _ h => by rw [D.py, PyData.canLay0]; exact h
  | _, _, .tup h => by rw [D.py, PyData.canLay0]; exact Pls.can h
  | _, _, .lst h => by rw [D.py, PyData.canLay0]; exact Pls.can h
theorem Pls.can : ∀ {n : Nat} {ds : List D}, Pls n ds → PyData.canLayAll0 (D.pys ds) = true
  | _, _, .nil _ => rfl
  | _, _, .cons h t => by rw [D.pys, PyData.canLayAll0, Pl.can h, Pls.can t]; rfl
end
mutual
theorem Pl.depth : ∀ {n : Nat} {d : D}, Pl n d → d.py.depth ≤ n
  | _, _, .int _ _ => by rw [D.py, PyData.depth]; exact Nat.zero_le _
  | _, _, .str _ h => by rw [D.py, PyData.depth]; exact Nat.zero_le _
  | _, _, .tup h => by rw [D.py, PyData.depth]; exact Nat.succ_le_succ (Pls.depth h)
  | _, _, .lst h => by rw [D.py, PyData.depth]; exact Nat.succ_le_succ (Pls.depth h)
theorem Pls.depth : ∀ {n : Nat} {ds : List D}, Pls n ds → PyData.depthAll (D.pys ds) ≤ n
  | _, _, .nil _ => Nat.zero_le _
  | _, _, .cons h t => by rw [D.pys, PyData.depthAll]; exact Nat.max_le.mpr ⟨Pl.depth h, Pls.depth t⟩
end
mutual
theorem Pl.up : ∀ {n m : Nat} {d : D}, Pl n d → n ≤ m → Pl m d
  | _, _, _, .int _ i, _ => .int _ i
  | _, _, _, .str _ h, _ => .str _ h
  | _, m, _, .tup h, hm => by
    obtain ⟨k, rfl⟩ : ∃ k, m = k + 1 := ⟨m - 1, by omega⟩
    exact .tup (Pls.up h (by omega))
  | _, m, _, .lst h, hm => by
    obtain ⟨k, rfl⟩ : ∃ k, m = k + 1 := ⟨m - 1, by omega⟩
    exact .lst (Pls.up h (by omega))
theorem Pls.up : ∀ {n m : Nat} {ds : List D}, Pls n ds → n ≤ m → Pls m ds
  | _, _, _, .nil _, _ => .nil _
  | _, _, _, .cons h t, hm => .cons (Pl.up h hm) (Pls.up t hm)
end
theorem Pls.of {n : Nat} : ∀ {ds : List D}, (∀ d ∈ ds, Pl n d) → Pls n ds
  | [], _ => .nil n
  | d :: ds, h => .cons (h d List.mem_cons_self) (Pls.of fun e he => h e (List.mem_cons_of_mem _ he))
theorem Pls.mem {n : Nat} : ∀ {ds : List D}, Pls n ds → ∀ d ∈ ds, Pl n d
  | _, .nil _, d, h => by cases h
  | _, .cons a t, d, h => by
    rcases List.mem_cons.mp h with rfl | h
    · exact a
    · exact Pls.mem t d h
theorem Pl.eqOk {n : Nat} {d : D} (h : Pl n d) (hn : n ≤ 64) : eqOk d = true := by
  unfold Kw.eqOk SeqAt.shaped
  rw [h.clean, h.can, decide_eq_true (Nat.le_trans h.depth hn)]
  rfl
mutual
theorem Pl.eqv : ∀ {n m : Nat} {a b : D}, Pl n a → Pl m b → (PyData.eqv a.py b.py = true ↔ a = b)
  | _, _, .int i, .int j, _, _ => by
    simp only [D.py, PyData.eqv, beq_iff_eq, D.int.injEq]
  | _, _, .str s, .str t, _, _ => by
    simp only [D.py, PyData.eqv, beq_iff_eq, D.str.injEq]
  | _, _, .tup xs, .tup ys, .tup h, .tup h' => by
    simp only [D.py, PyData.eqv, D.tup.injEq]
    exact Pls.eqv h h'
  | _, _, .lst xs, .lst ys, .lst h, .lst h' => by
    simp only [D.py, PyData.eqv, D.lst.injEq]
    exact Pls.eqv h h'
  | _, _, .int i, .str j, _, _ => by simp only [D.py, PyData.eqv]; simp
  | _, _, .int i, .tup j, _, _ => by simp only [D.py, PyData.eqv]; simp
  | _, _, .int i, .lst j, _, _ => by simp only [D.py, PyData.eqv]; simp
  | _, _, .str i, .int j, _, _ => by simp only [D.py, PyData.eqv]; simp
  | _, _, .str i, .tup j, _, _ => by simp only [D.py, PyData.eqv]; simp
  | _, _, .str i, .lst j, _, _ => by simp only [D.py, PyData.eqv]; simp
  | _, _, .tup i, .int j, _, _ => by simp only [D.py, PyData.eqv]; simp
  | _, _, .tup i, .str j, _, _ => by simp only [D.py, PyData.eqv]; simp
  | _, _, .tup i, .lst j, _, _ => by simp only [D.py, PyData.eqv]; simp
  | _, _, .lst i, .int j, _, _ => by simp only [D.py, PyData.eqv]; simp
  | _, _, .lst i, .str j, _, _ => by simp only [D.py, PyData.eqv]; simp
  | _, _, .lst i, .tup j, _, _ => by simp only [D.py, PyData.eqv]; simp
theorem Pls.eqv : ∀ {n m : Nat} {a b : List D}, Pls n a → Pls m b → (PyData.eqvAll (D.pys a) (D.pys b) = true ↔ a = b)
  | _, _, [], [], _, _ => by simp [D.pys, PyData.eqvAll]
  | _, _, [], _ :: _, _, _ => by simp [D.pys, PyData.eqvAll]
  | _, _, _ :: _, [], _, _ => by simp [D.pys, PyData.eqvAll]
  | _, _, a :: as, b :: bs, .cons h t, .cons h' t' => by
    simp only [D.pys, PyData.eqvAll, Bool.and_eq_true, List.cons.injEq]
    exact and_congr (Pl.eqv h h') (Pls.eqv t t')
end
end Kw

set_option Elab.async false
set_option linter.all false
set_option maxRecDepth 100000
set_option maxHeartbeats 2000000
/-! Law k03: bits. -/
namespace Kw
open PySem

theorem shl1 (m : Nat) : (1 <<< m : Nat) = 2 ^ m := by rw [Nat.shiftLeft_eq, Nat.one_mul]
theorem d_pow {m : Nat} (hm : m ≤ 2000) : binD .LShift (.int 1) (.int m) = some (.int ((2 ^ m : Nat) : Int)) := by
  have h := d_shl (a := 1) (b := m) (n := 1) (by decide) (by omega)
  rw [shl1] at h
  exact h
theorem pw10 {m : Nat} (h : m ≤ 10) : 2 ^ m ≤ 1024 := Nat.le_trans (Nat.pow_le_pow_right (by decide) h) (by decide)
theorem xor_nat (a b : Nat) : Builtin.bitXor a b = ((a ^^^ b : Nat) : Int) := by
  unfold Builtin.bitXor
  rw [bitOr_nat, bitAnd_nat]
  have e1 := Bits.nat_xor_add_and a b
  have e2 := PyProof.Rows.nat_or_add_and a b
  omega
theorem andNot_nat (a b : Nat) : Builtin.bitAnd a (Builtin.bitNot b) = ((a ^^^ (a &&& b) : Nat) : Int) := by
  have e1 := Bits.nat_xor_add_and a (a &&& b)
  rw [← Nat.and_assoc, Nat.and_self] at e1
  unfold Builtin.bitAnd Builtin.bitNot
  rw [decide_eq_true (by omega : (0 : Int) ≤ a), decide_eq_false (by omega : ¬ (0 : Int) ≤ -(b : Int) - 1)]
  show (a : Int) - (((a : Int).toNat &&& (-(-(b : Int) - 1) - 1).toNat : Nat) : Int) = _
  rw [show (-(-(b : Int) - 1) - 1) = (b : Int) by omega, Int.toNat_natCast, Int.toNat_natCast]
  have : a &&& b ≤ a := Nat.and_le_left
  omega
theorem andNot_bit (a b n : Nat) : (a ^^^ (a &&& b)).testBit n = (a.testBit n && !b.testBit n) := by
  rw [Nat.testBit_xor, Nat.testBit_and]
  cases a.testBit n <;> cases b.testBit n <;> rfl

theorem d_add {i j : Int} : binD .Add (.int i) (.int j) = some (.int (i + j)) := rfl
theorem d_sub {i j : Int} : binD .Sub (.int i) (.int j) = some (.int (i - j)) := rfl
theorem d_or {a b : Nat} : binD .BitOr (.int a) (.int b) = some (.int ((a ||| b : Nat) : Int)) := by rw [← bitOr_nat]; rfl
theorem d_and {a b : Nat} : binD .BitAnd (.int a) (.int b) = some (.int ((a &&& b : Nat) : Int)) := by rw [← bitAnd_nat]; rfl
theorem d_xor {a b : Nat} : binD .BitXor (.int a) (.int b) = some (.int ((a ^^^ b : Nat) : Int)) := by rw [← xor_nat]; rfl
theorem d_andNot {a b : Nat} : binD .BitAnd (.int a) (.int (Builtin.bitNot b)) = some (.int ((a ^^^ (a &&& b) : Nat) : Int)) := by rw [← andNot_nat]; rfl

/-! ### the mask of one name -/
def blockN (i : Nat) : Nat := (2 ^ 2 ^ i - 1) <<< 2 ^ i
def maskJ (i : Nat) : Nat → Nat
  | 0 => 0
  | j + 1 => maskJ i j ||| blockN i <<< (j * 2 ^ (i + 1))
theorem block_bit (i b : Nat) : (blockN i).testBit b = (decide (2 ^ i ≤ b) && decide (b < 2 ^ (i + 1))) := by
  unfold blockN
  rw [Nat.testBit_shiftLeft, Nat.testBit_two_pow_sub_one, Nat.pow_succ]
  by_cases h : 2 ^ i ≤ b
  · simp [h]
    omega
  · simp [h]
theorem bit_div (n i : Nat) : n.testBit i = decide (2 ^ i ≤ n % 2 ^ (i + 1)) := by
  rw [Nat.testBit_eq_decide_div_mod_eq]
  have hp : 0 < 2 ^ i := Nat.two_pow_pos i
  have e : n % 2 ^ (i + 1) = n % 2 ^ i + 2 ^ i * (n / 2 ^ i % 2) := by rw [Nat.pow_succ, Nat.mod_mul]
  have hm : n % 2 ^ i < 2 ^ i := Nat.mod_lt _ hp
  have h2 : n / 2 ^ i % 2 = 0 ∨ n / 2 ^ i % 2 = 1 := by omega
  rcases h2 with h2 | h2 <;> (rw [h2] at e ⊢; rw [decide_eq_decide]; simp; omega)
theorem mask_bit (i n : Nat) : ∀ j : Nat, (maskJ i j).testBit n = (decide (n < j * 2 ^ (i + 1)) && n.testBit i)
  | 0 => by simp [maskJ]
  | j + 1 => by
    have hp : 0 < 2 ^ (i + 1) := Nat.two_pow_pos _
    rw [maskJ, Nat.testBit_or, mask_bit i n j, Nat.testBit_shiftLeft, block_bit, Nat.succ_mul]
    by_cases h1 : n < j * 2 ^ (i + 1)
    · have h2 : ¬ j * 2 ^ (i + 1) ≤ n := by omega
      simp [h1, h2]
      omega
    · have h2 : j * 2 ^ (i + 1) ≤ n := by omega
      rw [bit_div n i]
      by_cases h3 : n < j * 2 ^ (i + 1) + 2 ^ (i + 1)
      · have e : n % 2 ^ (i + 1) = n - j * 2 ^ (i + 1) := by
          rw [Nat.mod_eq_sub_mul_div, show n / 2 ^ (i + 1) = j from Nat.div_eq_of_lt_le (by omega) (by rw [Nat.succ_mul]; omega), Nat.mul_comm]
        rw [e]
        simp [h1, h2, h3]
        omega
      · simp [h1, h2, h3]
        omega
theorem mask_lt {i m j : Nat} (hj : j * 2 ^ (i + 1) ≤ 2 ^ m) : maskJ i j < 2 ^ 2 ^ m := by
  refine Nat.lt_pow_two_of_testBit _ fun b hb => ?_
  rw [mask_bit, decide_eq_false (by omega), Bool.false_and]
theorem block_lt (i : Nat) : blockN i < 2 ^ 2 ^ (i + 1) := by
  refine Nat.lt_pow_two_of_testBit _ fun b hb => ?_
  rw [block_bit, decide_eq_false (by omega : ¬ b < 2 ^ (i + 1)), Bool.and_false]

theorem whole_ok {k m : Nat} {st : Store} (hm : m ≤ 10) : cfN tab (k + 1) F_whole_of [.int m] st = some (.int ((2 ^ (2 ^ m) - 1 : Nat) : Int), st) := by
  refine run_rt rfl rfl ?_
  have h1 := pw10 hm
  have h2 : (0 : Nat) < 2 ^ 2 ^ m := Nat.two_pow_pos _
  have e1 := d_pow (m := m) (by omega)
  have e2 := d_pow (m := 2 ^ m) (by omega)
  simp only [ir_whole_of, x_var, x_con, x_glob, x_tup, x_lst, x_bin, x_neg, x_inv, x_cmp, x_not, x_ite, x_ix, x_sl, x_call, x_bi, x_Es0, x_Es1, x_O0, x_O1, x_C0, x_asg, x_par2, x_aug, x_if, x_ret, x_ex, x_never, x_Ss0, x_Ss1, R.bind_some, List.getElem?_cons_zero, List.getElem?_cons_succ, List.set_cons_zero, List.set_cons_succ, Option.map_some, List.map_cons, List.map_nil, List.replicate, List.cons_append, List.nil_append, List.append_nil, Nat.sub_self, asg_nm, asg_tup, asgs_nil, asgs_cons, List.length_cons, List.length_nil, rd'_int, rd'_str, rd'_tup, rd_lst', rd_bl, rd_non, rd_scr, t_bl, t_int, t_non, Nat.reduceAdd, Nat.reduceLT, reduceIte, and_self, e1, e2, d_sub]
  rw [show ((2 ^ 2 ^ m : Nat) : Int) - 1 = ((2 ^ 2 ^ m - 1 : Nat) : Int) by omega]
/-- the loop of mask_of -/
theorem mask_loop {cf : CF} {i m : Nat} {st : Store} (hi : i < m) (hm : m ≤ 10) : ∀ (r j n : Nat), j + r = 2 ^ (m - 1 - i) → r < n →
    evWh (fun env st => R.bind (evE cf (.cmp .Lt (.var 4) (.bin .LShift (.con (.int 1)) (.var 1))) env st) fun x st => x.truth.map fun b => (b, st))
      (fun env st => evSs cf [.aug 3 .BitOr (.bin .LShift (.var 2) (.var 4)), .aug 4 .Add (.bin .LShift (.con (.int 2)) (.var 0))] env st) n
      [some (.int i), some (.int m), some (.int (blockN i : Nat)), some (.int (maskJ i j : Nat)), some (.int ((j * 2 ^ (i + 1) : Nat) : Int))] st
      = some (.nx [some (.int i), some (.int m), some (.int (blockN i : Nat)), some (.int (maskJ i (2 ^ (m - 1 - i)) : Nat)), some (.int ((2 ^ m : Nat) : Int))], st)
  | r, j, 0, _, h => by omega
  | r, j, n + 1, hj, hn => by
    have hp : 0 < 2 ^ (i + 1) := Nat.two_pow_pos _
    have hm2 : 2 ^ (m - 1 - i) * 2 ^ (i + 1) = 2 ^ m := by rw [← Nat.pow_add]; congr 1; omega
    have h10 := pw10 hm
    have e1 := d_pow (m := m) (by omega)
    rw [evWh]
    cases r with
    | zero =>
      have ej : j = 2 ^ (m - 1 - i) := by omega
      have hc : cmpD .Lt st (.int ((j * 2 ^ (i + 1) : Nat) : Int)) (.int ((2 ^ m : Nat) : Int)) = some false := by
        simp only [cmpD, ltD]
        rw [decide_eq_false (by subst ej; omega)]
      simp only [x_var, x_con, x_glob, x_tup, x_lst, x_bin, x_neg, x_inv, x_cmp, x_not, x_ite, x_ix, x_sl, x_call, x_bi, x_Es0, x_Es1, x_O0, x_O1, x_C0, x_asg, x_par2, x_aug, x_if, x_ret, x_ex, x_never, x_Ss0, x_Ss1, R.bind_some, List.getElem?_cons_zero, List.getElem?_cons_succ, List.set_cons_zero, List.set_cons_succ, Option.map_some, List.map_cons, List.map_nil, List.replicate, List.cons_append, List.nil_append, List.append_nil, Nat.sub_self, asg_nm, asg_tup, asgs_nil, asgs_cons, List.length_cons, List.length_nil, rd'_int, rd'_str, rd'_tup, rd_lst', rd_bl, rd_non, rd_scr, t_bl, t_int, t_non, Nat.reduceAdd, Nat.reduceLT, reduceIte, and_self, e1, hc, Bool.false_eq_true]
      subst ej
      rw [hm2]
    | succ r =>
      have hlt : j * 2 ^ (i + 1) + 2 ^ (i + 1) ≤ 2 ^ m := by
        rw [← hm2, ← Nat.succ_mul]
        exact Nat.mul_le_mul_right _ (by omega)
      have hc : cmpD .Lt st (.int ((j * 2 ^ (i + 1) : Nat) : Int)) (.int ((2 ^ m : Nat) : Int)) = some true := by
        simp only [cmpD, ltD]
        rw [decide_eq_true (by omega)]
      have hb := block_lt i
      have hi2 : 2 ^ (i + 1) ≤ 1024 := pw10 (by omega)
      have e2 := d_shl (a := blockN i) (b := j * 2 ^ (i + 1)) (n := 2 ^ (i + 1)) hb (by omega)
      have e3 := d_shl (a := 2) (b := i) (n := 2) (by decide) (by omega)
      have e4 : (2 <<< i : Nat) = 2 ^ (i + 1) := by rw [Nat.shiftLeft_eq, Nat.pow_succ, Nat.mul_comm]
      rw [e4] at e3
      have e5 : binD .LShift (.int 2) (.int i) = some (.int ((2 ^ (i + 1) : Nat) : Int)) := e3
      have e6 : ((j * 2 ^ (i + 1) : Nat) : Int) + ((2 ^ (i + 1) : Nat) : Int) = (((j + 1) * 2 ^ (i + 1) : Nat) : Int) := by rw [Nat.succ_mul]; omega
      have ih := mask_loop (cf := cf) (st := st) hi hm r (j + 1) n (by omega) (by omega)
      simp only [x_var, x_con, x_glob, x_tup, x_lst, x_bin, x_neg, x_inv, x_cmp, x_not, x_ite, x_ix, x_sl, x_call, x_bi, x_Es0, x_Es1, x_O0, x_O1, x_C0, x_asg, x_par2, x_aug, x_if, x_ret, x_ex, x_never, x_Ss0, x_Ss1, R.bind_some, List.getElem?_cons_zero, List.getElem?_cons_succ, List.set_cons_zero, List.set_cons_succ, Option.map_some, List.map_cons, List.map_nil, List.replicate, List.cons_append, List.nil_append, List.append_nil, Nat.sub_self, asg_nm, asg_tup, asgs_nil, asgs_cons, List.length_cons, List.length_nil, rd'_int, rd'_str, rd'_tup, rd_lst', rd_bl, rd_non, rd_scr, t_bl, t_int, t_non, Nat.reduceAdd, Nat.reduceLT, reduceIte, and_self, e1, hc, e2, e5, d_or, d_add, e6]
      simp only [x_var, x_con, x_glob, x_tup, x_lst, x_bin, x_neg, x_inv, x_cmp, x_not, x_ite, x_ix, x_sl, x_call, x_bi, x_Es0, x_Es1, x_O0, x_O1, x_C0, x_asg, x_par2, x_aug, x_if, x_ret, x_ex, x_never, x_Ss0, x_Ss1, R.bind_some, List.getElem?_cons_zero, List.getElem?_cons_succ, List.set_cons_zero, List.set_cons_succ, Option.map_some, List.map_cons, List.map_nil, List.replicate, List.cons_append, List.nil_append, List.append_nil, Nat.sub_self, asg_nm, asg_tup, asgs_nil, asgs_cons, List.length_cons, List.length_nil, rd'_int, rd'_str, rd'_tup, rd_lst', rd_bl, rd_non, rd_scr, t_bl, t_int, t_non, Nat.reduceAdd, Nat.reduceLT, reduceIte, and_self, maskJ] at ih
      exact ih
theorem mask_ok {k i m : Nat} {st : Store} (hi : i < m) (hm : m ≤ 10) : cfN tab (k + 1) F_mask_of [.int i, .int m] st = some (.int (maskJ i (2 ^ (m - 1 - i)) : Nat), st) := by
  refine run_rt rfl rfl ?_
  have h1 := pw10 hm
  have hi1 := pw10 (m := i) (by omega)
  have e1 := d_pow (m := i) (by omega)
  have e2 := d_pow (m := 2 ^ i) (by omega)
  have h2 : (0 : Nat) < 2 ^ 2 ^ i := Nat.two_pow_pos _
  have e3 : binD .Sub (.int ((2 ^ 2 ^ i : Nat) : Int)) (.int 1) = some (.int ((2 ^ 2 ^ i - 1 : Nat) : Int)) := by
    simp only [binD]
    rw [show ((2 ^ 2 ^ i : Nat) : Int) - 1 = ((2 ^ 2 ^ i - 1 : Nat) : Int) by omega]
  have e4 : binD .LShift (.int ((2 ^ 2 ^ i - 1 : Nat) : Int)) (.int ((2 ^ i : Nat) : Int)) = some (.int ((blockN i : Nat) : Int)) := d_shl (n := 2 ^ i) (by omega) (by omega)
  have hl := mask_loop (cf := cfN tab k) (st := st) hi hm (2 ^ (m - 1 - i)) 0 FU (by omega) (by
    have := pw10 (m := m - 1 - i) (by omega)
    show _ < 10000000
    omega)
  rw [← x_while] at hl
  simp only [maskJ, Nat.zero_mul] at hl
  have hl' : evS (cfN tab k) _ [some (.int i), some (.int m), some (.int (blockN i : Nat)), some (.int 0), some (.int 0)] st = _ := hl
  simp only [ir_mask_of, x_var, x_con, x_glob, x_tup, x_lst, x_bin, x_neg, x_inv, x_cmp, x_not, x_ite, x_ix, x_sl, x_call, x_bi, x_Es0, x_Es1, x_O0, x_O1, x_C0, x_asg, x_par2, x_aug, x_if, x_ret, x_ex, x_never, x_Ss0, x_Ss1, R.bind_some, List.getElem?_cons_zero, List.getElem?_cons_succ, List.set_cons_zero, List.set_cons_succ, Option.map_some, List.map_cons, List.map_nil, List.replicate, List.cons_append, List.nil_append, List.append_nil, Nat.sub_self, asg_nm, asg_tup, asgs_nil, asgs_cons, List.length_cons, List.length_nil, rd'_int, rd'_str, rd'_tup, rd_lst', rd_bl, rd_non, rd_scr, t_bl, t_int, t_non, Nat.reduceAdd, Nat.reduceLT, reduceIte, and_self, e1, e2, e3, e4, hl']
/-- truths, by bits -/
def lowM (T i m : Nat) : Nat := T ^^^ (T &&& maskJ i (2 ^ (m - 1 - i)))
def highM (T i m : Nat) : Nat := T &&& maskJ i (2 ^ (m - 1 - i))
theorem sides_ok {k T i m : Nat} {st : Store} (hi : i < m) (hm : m ≤ 10) (hT : T < 2 ^ 2 ^ m) : cfN tab (k + 2) F_sides_of [.int T, .int i, .int m] st = some (.tup [.int ((highM T i m ||| highM T i m >>> 2 ^ i : Nat) : Int), .int ((lowM T i m ||| lowM T i m <<< 2 ^ i : Nat) : Int)], st) := by
  refine run_rt rfl rfl ?_
  have h1 := pw10 hm
  have hi1 := pw10 (m := i) (by omega)
  have e1 := d_pow (m := i) (by omega)
  have e2 := mask_ok (k := k) (st := st) hi hm
  have hlow : lowM T i m < 2 ^ 2 ^ m := Nat.xor_lt_two_pow hT (Nat.lt_of_le_of_lt Nat.and_le_left hT)
  have e3 := d_shl (a := lowM T i m) (b := 2 ^ i) (n := 2 ^ m) hlow (by omega)
  have e4 : binD .BitAnd (.int T) (.int (maskJ i (2 ^ (m - 1 - i)) : Nat)) = some (.int (highM T i m : Nat)) := d_and
  have e5 : binD .BitAnd (.int T) (.int (Builtin.bitNot (maskJ i (2 ^ (m - 1 - i)) : Nat))) = some (.int (lowM T i m : Nat)) := d_andNot
  simp only [ir_sides_of, x_var, x_con, x_glob, x_tup, x_lst, x_bin, x_neg, x_inv, x_cmp, x_not, x_ite, x_ix, x_sl, x_call, x_bi, x_Es0, x_Es1, x_O0, x_O1, x_C0, x_asg, x_par2, x_aug, x_if, x_ret, x_ex, x_never, x_Ss0, x_Ss1, R.bind_some, List.getElem?_cons_zero, List.getElem?_cons_succ, List.set_cons_zero, List.set_cons_succ, Option.map_some, List.map_cons, List.map_nil, List.replicate, List.cons_append, List.nil_append, List.append_nil, Nat.sub_self, asg_nm, asg_tup, asgs_nil, asgs_cons, List.length_cons, List.length_nil, rd'_int, rd'_str, rd'_tup, rd_lst', rd_bl, rd_non, rd_scr, t_bl, t_int, t_non, Nat.reduceAdd, Nat.reduceLT, reduceIte, and_self, e1, e2, e3, e4, e5, d_or, d_shr]
end Kw

set_option Elab.async false
set_option linter.all false
set_option maxRecDepth 100000
set_option maxHeartbeats 2000000
/-! Law k03: formulas, their truths. -/
namespace Kw
open PySem

inductive Fm where
  | yes | no
  | nm (s : Str)
  | not (a : Fm)
  | bin (w : Fin 3) (a b : Fm)
  | ite (a b c : Fm)
  | qu (w : Bool) (s : Str) (a : Fm)
  | put (s : Str) (a b : Fm)
def binW : Fin 3 → Str
  | 0 => "and"
  | 1 => "or"
  | 2 => "xor"
def quW : Bool → Str
  | true => "some"
  | false => "all"
def Fm.d : Fm → D
  | .yes => .tup [.str "yes"]
  | .no => .tup [.str "no"]
  | .nm s => .tup [.str "name", .str s]
  | .not a => .tup [.str "not", a.d]
  | .bin w a b => .tup [.str (binW w), a.d, b.d]
  | .ite a b c => .tup [.str "if", a.d, b.d, c.d]
  | .qu w s a => .tup [.str (quW w), .str s, a.d]
  | .put s a b => .tup [.str "put", .str s, a.d, b.d]
def Fm.parts : Fm → List Fm
  | .yes => []
  | .no => []
  | .nm _ => []
  | .not a => [a]
  | .bin _ a b => [a, b]
  | .ite a b c => [a, b, c]
  | .qu _ _ a => [a]
  | .put _ a b => [a, b]
def Fm.size : Fm → Nat
  | .yes => 1
  | .no => 1
  | .nm _ => 1
  | .not a => 1 + a.size
  | .bin _ a b => 1 + (a.size + b.size)
  | .ite a b c => 1 + (a.size + (b.size + c.size))
  | .qu _ _ a => 1 + a.size
  | .put _ a b => 1 + (a.size + b.size)
def Fm.deep : Fm → Nat
  | .yes => 0
  | .no => 0
  | .nm _ => 0
  | .not a => 1 + a.deep
  | .bin _ a b => 1 + max a.deep b.deep
  | .ite a b c => 1 + max a.deep (max b.deep c.deep)
  | .qu _ _ a => 1 + a.deep
  | .put _ a b => 1 + max a.deep b.deep
def Fm.names : Fm → List Str
  | .yes => []
  | .no => []
  | .nm s => [s]
  | .not a => a.names
  | .bin _ a b => a.names ++ b.names
  | .ite a b c => a.names ++ (b.names ++ c.names)
  | .qu _ s a => s :: a.names
  | .put s a b => s :: (a.names ++ b.names)
def upT (ρ : Str → Bool) (s : Str) (b : Bool) : Str → Bool := fun x => if x = s then b else ρ x
def Fm.ev : Fm → (Str → Bool) → Bool
  | .yes, _ => true
  | .no, _ => false
  | .nm s, ρ => ρ s
  | .not a, ρ => !a.ev ρ
  | .bin 0 a b, ρ => a.ev ρ && b.ev ρ
  | .bin 1 a b, ρ => a.ev ρ || b.ev ρ
  | .bin 2 a b, ρ => a.ev ρ ^^ b.ev ρ
  | .ite a b c, ρ => if a.ev ρ then b.ev ρ else c.ev ρ
  | .qu true s a, ρ => a.ev (upT ρ s true) || a.ev (upT ρ s false)
  | .qu false s a, ρ => a.ev (upT ρ s true) && a.ev (upT ρ s false)
  | .put s a b, ρ => b.ev (upT ρ s (a.ev ρ))
theorem Fm.ev_congr : ∀ (f : Fm) {ρ ρ' : Str → Bool}, (∀ x ∈ f.names, ρ x = ρ' x) → f.ev ρ = f.ev ρ' := by
  have up : ∀ {ρ ρ' : Str → Bool} {s : Str} {b b' : Bool} {l : List Str}, b = b' → (∀ x ∈ l, ρ x = ρ' x) → ∀ x ∈ l, upT ρ s b x = upT ρ' s b' x := by
    intro ρ ρ' s b b' l hb h x hx
    subst hb
    unfold upT
    split
    · rfl
    · exact h x hx
  intro f
  induction f with
  | yes => intros; rfl
  | no => intros; rfl
  | nm s => intro ρ ρ' h; exact h s (by simp [Fm.names])
  | not a ih => intro ρ ρ' h; simp only [Fm.ev, ih h]
  | bin w a b iha ihb =>
    intro ρ ρ' h
    have ha := iha (ρ := ρ) (ρ' := ρ') fun x hx => h x (by simp [Fm.names, hx])
    have hb := ihb (ρ := ρ) (ρ' := ρ') fun x hx => h x (by simp [Fm.names, hx])
    match w with
    | 0 => simp only [Fm.ev, ha, hb]
    | 1 => simp only [Fm.ev, ha, hb]
    | 2 => simp only [Fm.ev, ha, hb]
  | ite a b c iha ihb ihc =>
    intro ρ ρ' h
    have ha := iha (ρ := ρ) (ρ' := ρ') fun x hx => h x (by simp [Fm.names, hx])
    have hb := ihb (ρ := ρ) (ρ' := ρ') fun x hx => h x (by simp [Fm.names, hx])
    have hc := ihc (ρ := ρ) (ρ' := ρ') fun x hx => h x (by simp [Fm.names, hx])
    simp only [Fm.ev, ha, hb, hc]
  | qu w s a ih =>
    intro ρ ρ' h
    have h1 := ih (up (s := s) (b := true) rfl fun x hx => h x (by simp [Fm.names, hx]))
    have h2 := ih (up (s := s) (b := false) rfl fun x hx => h x (by simp [Fm.names, hx]))
    cases w <;> simp only [Fm.ev, h1, h2]
  | put s a b iha ihb =>
    intro ρ ρ' h
    have ha := iha (ρ := ρ) (ρ' := ρ') fun x hx => h x (by simp [Fm.names, hx])
    have hb := ihb (up (s := s) ha fun x hx => h x (by simp [Fm.names, hx]))
    simp only [Fm.ev, hb]

/-! ### equality of texts -/
def okS (s : Str) : Prop := PyData.strOk s = true
theorem cmpEq {st : Store} {x y : D} (hx : eqOk (rd st x) = true) (hy : eqOk (rd st y) = true) : cmpD .Eq st x y = some (PyData.eqv (rd st x).py (rd st y).py) := by
  unfold cmpD
  exact if_pos (by rw [hx, hy]; rfl)
theorem cmpNe {st : Store} {x y : D} (hx : eqOk (rd st x) = true) (hy : eqOk (rd st y) = true) : cmpD .NotEq st x y = some (!PyData.eqv (rd st x).py (rd st y).py) := by
  unfold cmpD
  exact if_pos (by rw [hx, hy]; rfl)
theorem eqv_ss (a b : Str) : PyData.eqv (D.str a).py (D.str b).py = decide (a = b) := by
  simp only [D.py, PyData.eqv]
  rw [Bool.beq_eq_decide_eq]
theorem eqv_ii (a b : Int) : PyData.eqv (D.int a).py (D.int b).py = decide (a = b) := by
  simp only [D.py, PyData.eqv]
  rw [Bool.beq_eq_decide_eq]
theorem cmp_ss {st : Store} {a b : Str} (ha : okS a) (hb : okS b) : cmpD .Eq st (.str a) (.str b) = some (decide (a = b)) := by
  rw [cmpEq (x := .str a) (y := .str b) (Pl.eqOk (.str 0 ha) (by omega)) (Pl.eqOk (.str 0 hb) (by omega)), rd'_str, rd'_str, eqv_ss]
theorem cmp_ne_ss {st : Store} {a b : Str} (ha : okS a) (hb : okS b) : cmpD .NotEq st (.str a) (.str b) = some (!decide (a = b)) := by
  rw [cmpNe (x := .str a) (y := .str b) (Pl.eqOk (.str 0 ha) (by omega)) (Pl.eqOk (.str 0 hb) (by omega)), rd'_str, rd'_str, eqv_ss]
theorem cmp_ii {st : Store} {a b : Int} : cmpD .Eq st (.int a) (.int b) = some (decide (a = b)) := by
  rw [cmpEq (x := .int a) (y := .int b) (Pl.eqOk (.int 0 a) (by omega)) (Pl.eqOk (.int 0 b) (by omega)), rd'_int, rd'_int, eqv_ii]
theorem cmp_ne_ii {st : Store} {a b : Int} : cmpD .NotEq st (.int a) (.int b) = some (!decide (a = b)) := by
  rw [cmpNe (x := .int a) (y := .int b) (Pl.eqOk (.int 0 a) (by omega)) (Pl.eqOk (.int 0 b) (by omega)), rd'_int, rd'_int, eqv_ii]
theorem cmp_lt {st : Store} {a b : Int} : cmpD .Lt st (.int a) (.int b) = some (decide (a < b)) := rfl
theorem cmp_gt {st : Store} {a b : Int} : cmpD .Gt st (.int a) (.int b) = some (decide (b < a)) := rfl
theorem eqv_nil (xs : List D) : PyData.eqv (D.lst xs).py (D.lst []).py = xs.isEmpty := by
  cases xs with
  | nil => rfl
  | cons x xs => simp only [D.py, D.pys, PyData.eqv, PyData.eqvAll, List.isEmpty_cons]
theorem cmp_nil {st : Store} {n : Nat} {xs : List D} (h : Pls n xs) (hn : n < 64) : cmpD .Eq st (.lst xs) (.lst []) = some xs.isEmpty := by
  rw [cmpEq (x := .lst xs) (y := .lst []) (Pl.eqOk (.lst h) (by omega)) (Pl.eqOk (.lst (.nil 0)) (by omega)), rd_lst', rd_lst', eqv_nil]
theorem cmp_ne_nil {st : Store} {n : Nat} {xs : List D} (h : Pls n xs) (hn : n < 64) : cmpD .NotEq st (.lst xs) (.lst []) = some (!xs.isEmpty) := by
  rw [cmpNe (x := .lst xs) (y := .lst []) (Pl.eqOk (.lst h) (by omega)) (Pl.eqOk (.lst (.nil 0)) (by omega)), rd_lst', rd_lst', eqv_nil]
theorem pls_strs : ∀ {ss : List Str}, (∀ s ∈ ss, okS s) → Pls 0 (ss.map D.str)
  | [], _ => .nil 0
  | s :: ss, h => .cons (.str 0 (h s List.mem_cons_self)) (pls_strs fun x hx => h x (List.mem_cons_of_mem _ hx))
theorem any_strs {ss : List Str} {s : Str} : ((ss.map D.str).any fun z => PyData.eqv z.py (D.str s).py) = decide (s ∈ ss) := by
  rw [Bool.eq_iff_iff, List.any_eq_true, decide_eq_true_eq]
  constructor
  · rintro ⟨d, hd, he⟩
    obtain ⟨t, ht, rfl⟩ := List.mem_map.mp hd
    simp only [D.py, PyData.eqv, beq_iff_eq] at he
    rw [← he]
    exact ht
  · intro h
    exact ⟨.str s, List.mem_map.mpr ⟨s, h, rfl⟩, by simp only [D.py, PyData.eqv, beq_self_eq_true]⟩
/-- a text among texts -/
theorem in_strs {st : Store} {ss : List Str} {s : Str} (hs : okS s) (h : ∀ x ∈ ss, okS x) : cmpD .In st (.str s) (.tup (ss.map D.str)) = some (decide (s ∈ ss)) ∧ cmpD .In st (.str s) (.lst (ss.map D.str)) = some (decide (s ∈ ss)) ∧
    cmpD .NotIn st (.str s) (.tup (ss.map D.str)) = some (!decide (s ∈ ss)) ∧ cmpD .NotIn st (.str s) (.lst (ss.map D.str)) = some (!decide (s ∈ ss)) := by
  have h1 : eqOk (.str s) = true := Pl.eqOk (.str 0 hs) (by omega)
  have h2 : eqOk (.tup (ss.map D.str)) = true := Pl.eqOk (.tup (pls_strs h)) (by omega)
  have h3 : eqOk (.lst (ss.map D.str)) = true := Pl.eqOk (.lst (pls_strs h)) (by omega)
  have t1 : inD (.str s) (.tup (ss.map D.str)) = some (decide (s ∈ ss)) := by
    unfold inD
    exact (if_pos (by rw [h1, h2]; rfl)).trans (by rw [any_strs])
  have t2 : inD (.str s) (.lst (ss.map D.str)) = some (decide (s ∈ ss)) := by
    unfold inD
    exact (if_pos (by rw [h1, h3]; rfl)).trans (by rw [any_strs])
  exact ⟨t1, t2, congrArg (Option.map fun b => !b) t1, congrArg (Option.map fun b => !b) t2⟩
/-- names.index(name) -/
theorem ixOf_strs {s : Str} : ∀ {ss : List Str}, s ∈ ss → ixOf (D.str s).py (ss.map D.str) = some (ss.idxOf s)
  | [], h => by cases h
  | t :: ss, h => by
    rw [List.map_cons, ixOf, List.idxOf_cons]
    by_cases e : t = s
    · subst e
      simp only [D.py, PyData.eqv, beq_self_eq_true, if_true, cond_true]
    · have h2 : s ∈ ss := by
        rcases List.mem_cons.mp h with z | z
        · exact absurd z.symm e
        · exact z
      have e1 : (t == s) = false := by rw [beq_eq_false_iff_ne]; exact e
      rw [ixOf_strs h2]
      simp only [D.py, PyData.eqv, e1, cond_false, Option.map_some]
      rfl
theorem idx_ok {ss : List Str} {s : Str} {st : Store} (hs : okS s) (h : ∀ x ∈ ss, okS x) (hm : s ∈ ss) : mtD .index (.lst (ss.map D.str)) [.str s] st = some (.int (ss.idxOf s), st) := by
  have h1 : eqOk (.str s) = true := Pl.eqOk (.str 0 hs) (by omega)
  have h3 : eqOk (.lst (ss.map D.str)) = true := Pl.eqOk (.lst (pls_strs h)) (by omega)
  unfold mtD
  exact (if_pos (by rw [h1, h3]; rfl)).trans (by rw [ixOf_strs hm]; rfl)
end Kw

set_option Elab.async false
set_option linter.all false
set_option maxRecDepth 100000
set_option maxHeartbeats 2000000
/-! Law k03: the truths of a formula. -/
namespace Kw
open PySem

theorem own_ok {k : Nat} (f : Fm) {st : Store} : cfN tab (k + 1) F_own_parts [f.d] st = some (.lst (f.parts.map Fm.d), st) := by
  refine run_rt rfl (by cases f <;> rfl) ?_
  cases f with
  | bin w a b =>
    match w with
    | 0 => kernel_rfl
    | 1 => kernel_rfl
    | 2 => kernel_rfl
  | qu w s a => cases w <;> kernel_rfl
  | _ => kernel_rfl
theorem joint_ok {k : Nat} (w : Fin 3) {a b : Nat} {st : Store} : cfN tab (k + 1) F_joint_truths [.str (binW w), .int a, .int b] st = some (.int ((match w with
    | 0 => a &&& b
    | 1 => a ||| b
    | 2 => a ^^^ b : Nat) : Int), st) := by
  refine run_rt rfl rfl ?_
  match w with
  | 0 =>
    show _ = some (Fl.rt (.int ((a &&& b : Nat) : Int)), st)
    rw [← bitAnd_nat]
    kernel_rfl
  | 1 =>
    show _ = some (Fl.rt (.int ((a ||| b : Nat) : Int)), st)
    rw [← bitOr_nat]
    kernel_rfl
  | 2 =>
    show _ = some (Fl.rt (.int ((a ^^^ b : Nat) : Int)), st)
    rw [← xor_nat]
    kernel_rfl
/-- what one formula's truths are -/
def TrOk (names : List Str) (f : Fm) (T : Nat) : Prop := T < 2 ^ 2 ^ names.length ∧ ∀ n, n < 2 ^ names.length → T.testBit n = f.ev fun x => n.testBit (names.idxOf x)
theorem idx_out {names : List Str} {x : Str} (h : x ∉ names) : names.idxOf x = names.length := List.idxOf_eq_length h
theorem bit_out {n m : Nat} (h : n < 2 ^ m) : n.testBit m = false := Nat.testBit_lt_two_pow h
section
variable {names : List Str}
theorem tr_yes : TrOk names .yes (2 ^ 2 ^ names.length - 1) := by
  refine ⟨by have := Nat.two_pow_pos (2 ^ names.length); omega, fun n hn => ?_⟩
  rw [Nat.testBit_two_pow_sub_one, decide_eq_true hn]
  rfl
theorem tr_no : TrOk names .no 0 := ⟨Nat.two_pow_pos _, fun n hn => by rw [Nat.zero_testBit]; rfl⟩
theorem idx_lt {s : Str} (h : s ∈ names) : names.idxOf s < names.length := List.idxOf_lt_length_iff.mpr h
theorem mask_two {i m : Nat} (hi : i < m) : 2 ^ (m - 1 - i) * 2 ^ (i + 1) = 2 ^ m := by rw [← Nat.pow_add]; congr 1; omega
theorem tr_nm {s : Str} (h : s ∈ names) : TrOk names (.nm s) (maskJ (names.idxOf s) (2 ^ (names.length - 1 - names.idxOf s))) := by
  have hi := idx_lt h
  refine ⟨mask_lt (Nat.le_of_eq (mask_two hi)), fun n hn => ?_⟩
  rw [mask_bit, mask_two hi, decide_eq_true hn, Bool.true_and]
  rfl
theorem tr_not {a : Fm} {A : Nat} (h : TrOk names a A) : TrOk names (.not a) ((2 ^ 2 ^ names.length - 1) ^^^ A) := by
  have hp := Nat.two_pow_pos (2 ^ names.length)
  refine ⟨Nat.xor_lt_two_pow (by omega) h.1, fun n hn => ?_⟩
  rw [Nat.testBit_xor, Nat.testBit_two_pow_sub_one, decide_eq_true hn, h.2 n hn]
  show (true ^^ _) = !_
  rw [Bool.true_xor]
theorem tr_bin {w : Fin 3} {a b : Fm} {A B : Nat} (ha : TrOk names a A) (hb : TrOk names b B) : TrOk names (.bin w a b) (match w with
    | 0 => A &&& B
    | 1 => A ||| B
    | 2 => A ^^^ B : Nat) := by
  match w with
  | 0 => exact ⟨Nat.and_lt_two_pow _ hb.1, fun n hn => by rw [Nat.testBit_and, ha.2 n hn, hb.2 n hn]; rfl⟩
  | 1 => exact ⟨Nat.or_lt_two_pow ha.1 hb.1, fun n hn => by rw [Nat.testBit_or, ha.2 n hn, hb.2 n hn]; rfl⟩
  | 2 => exact ⟨Nat.xor_lt_two_pow ha.1 hb.1, fun n hn => by rw [Nat.testBit_xor, ha.2 n hn, hb.2 n hn]; rfl⟩
theorem tr_ite {a b c : Fm} {A B C : Nat} (ha : TrOk names a A) (hb : TrOk names b B) (hc : TrOk names c C) : TrOk names (.ite a b c) (A &&& B ||| ((2 ^ 2 ^ names.length - 1) ^^^ A) &&& C) := by
  have hp := Nat.two_pow_pos (2 ^ names.length)
  refine ⟨Nat.or_lt_two_pow (Nat.and_lt_two_pow _ hb.1) (Nat.and_lt_two_pow _ hc.1), fun n hn => ?_⟩
  rw [Nat.testBit_or, Nat.testBit_and, Nat.testBit_and, Nat.testBit_xor, Nat.testBit_two_pow_sub_one, decide_eq_true hn, ha.2 n hn, hb.2 n hn, hc.2 n hn]
  simp only [Fm.ev]
  cases a.ev _ <;> cases b.ev _ <;> cases c.ev _ <;> rfl
/-- the number with bit i set, cleared -/
theorem set_bit (n i j : Nat) : (n ||| 2 ^ i).testBit j = (n.testBit j || decide (i = j)) := by rw [Nat.testBit_or, Nat.testBit_two_pow]
theorem high_bit {T i m n : Nat} (hi : i < m) (hn : n < 2 ^ m) : (highM T i m ||| highM T i m >>> 2 ^ i).testBit n = T.testBit (n ||| 2 ^ i) := by
  have hp := Nat.two_pow_pos i
  have hj := mask_two hi
  unfold highM
  rw [Nat.testBit_or, Nat.testBit_shiftRight, Nat.testBit_and, Nat.testBit_and, mask_bit, mask_bit, hj, decide_eq_true hn, Bool.true_and]
  cases q : n.testBit i with
  | true =>
    have e : n ||| 2 ^ i = n := by
      refine Nat.eq_of_testBit_eq fun j => ?_
      rw [set_bit]
      by_cases h : i = j
      · subst h; rw [q]; simp
      · simp [h]
    have e2 : (2 ^ i + n).testBit i = false := by rw [Nat.testBit_two_pow_add_eq, q]; rfl
    rw [e, e2, Bool.and_false, Bool.and_false, Bool.or_false, Bool.and_true]
  | false =>
    have e2 : (2 ^ i + n).testBit i = true := by rw [Nat.testBit_two_pow_add_eq, q]; rfl
    have e : n ||| 2 ^ i = 2 ^ i + n := by
      have h1 := PyProof.Rows.nat_or_add_and n (2 ^ i)
      have h2 : n &&& 2 ^ i = 0 := by
        refine Nat.eq_of_testBit_eq fun j => ?_
        rw [Nat.testBit_and, Nat.testBit_two_pow, Nat.zero_testBit]
        by_cases h : i = j
        · subst h; rw [q]; rfl
        · simp [h]
      omega
    have hlt : 2 ^ i + n < 2 ^ m := by
      rw [← e]
      exact Nat.or_lt_two_pow hn (Nat.pow_lt_pow_right (by decide) hi)
    rw [e, e2, decide_eq_true hlt, Bool.and_false, Bool.false_or, Bool.and_true, Bool.and_true]
theorem low_bit {T i m n : Nat} (hi : i < m) (hn : n < 2 ^ m) : (lowM T i m ||| lowM T i m <<< 2 ^ i).testBit n = T.testBit (n ^^^ (n &&& 2 ^ i)) := by
  have hp := Nat.two_pow_pos i
  have hj := mask_two hi
  unfold lowM
  rw [Nat.testBit_or, Nat.testBit_shiftLeft, andNot_bit, andNot_bit, mask_bit, mask_bit, hj, decide_eq_true hn, Bool.true_and]
  cases q : n.testBit i with
  | false =>
    have e0 : n &&& 2 ^ i = 0 := by
      refine Nat.eq_of_testBit_eq fun j => ?_
      rw [Nat.testBit_and, Nat.testBit_two_pow, Nat.zero_testBit]
      by_cases h : i = j
      · subst h; rw [q]; rfl
      · simp [h]
    rw [e0, Nat.xor_zero]
    by_cases hge : 2 ^ i ≤ n
    · have e2 : (n - 2 ^ i).testBit i = true := by
        have h3 : (2 ^ i + (n - 2 ^ i)).testBit i = !(n - 2 ^ i).testBit i := Nat.testBit_two_pow_add_eq _ _
        rw [show 2 ^ i + (n - 2 ^ i) = n by omega, q] at h3
        cases h4 : (n - 2 ^ i).testBit i
        · rw [h4] at h3; cases h3
        · rfl
      rw [e2, decide_eq_true (by omega : n - 2 ^ i < 2 ^ m)]
      simp
    · simp [hge]
  | true =>
    have hge : 2 ^ i ≤ n := Nat.ge_two_pow_of_testBit q
    have e0 : n &&& 2 ^ i = 2 ^ i := by
      refine Nat.eq_of_testBit_eq fun j => ?_
      rw [Nat.testBit_and, Nat.testBit_two_pow]
      by_cases h : i = j
      · subst h; rw [q]; rfl
      · simp [h]
    have e1 : n ^^^ 2 ^ i = n - 2 ^ i := by
      have h1 := Bits.nat_xor_add_and n (2 ^ i)
      rw [e0] at h1
      omega
    have e2 : (n - 2 ^ i).testBit i = false := by
      have h3 : (2 ^ i + (n - 2 ^ i)).testBit i = !(n - 2 ^ i).testBit i := Nat.testBit_two_pow_add_eq _ _
      rw [show 2 ^ i + (n - 2 ^ i) = n by omega, q] at h3
      cases h4 : (n - 2 ^ i).testBit i
      · rfl
      · rw [h4] at h3; cases h3
    rw [e0, e1, e2]
    simp [hge]
theorem clr_bit (n i j : Nat) : (n ^^^ (n &&& 2 ^ i)).testBit j = (n.testBit j && !decide (i = j)) := by rw [andNot_bit, Nat.testBit_two_pow]
theorem idx_eq {s x : Str} (hs : s ∈ names) : names.idxOf s = names.idxOf x ↔ x = s := by
  constructor
  · intro h
    have hx : x ∈ names := by
      by_cases q : x ∈ names
      · exact q
      · rw [idx_out q] at h
        have := idx_lt hs
        omega
    have h1 := List.getElem_idxOf (idx_lt hs)
    have h2 := List.getElem_idxOf (idx_lt hx)
    simp only [h] at h1
    exact h2.symm.trans h1
  · rintro rfl
    rfl
theorem set_ev {s : Str} {n : Nat} (hs : s ∈ names) : (fun x => (n ||| 2 ^ names.idxOf s).testBit (names.idxOf x)) = upT (fun x => n.testBit (names.idxOf x)) s true := by
  funext x
  unfold upT
  rw [set_bit]
  by_cases h : x = s
  · subst h; simp
  · rw [if_neg h, decide_eq_false (fun z => h ((idx_eq hs).mp z)), Bool.or_false]
theorem clr_ev {s : Str} {n : Nat} (hs : s ∈ names) : (fun x => (n ^^^ (n &&& 2 ^ names.idxOf s)).testBit (names.idxOf x)) = upT (fun x => n.testBit (names.idxOf x)) s false := by
  funext x
  unfold upT
  rw [clr_bit]
  by_cases h : x = s
  · subst h; simp
  · rw [if_neg h, decide_eq_false (fun z => h ((idx_eq hs).mp z)), Bool.not_false, Bool.and_true]
theorem set_lt {n i m : Nat} (hn : n < 2 ^ m) (hi : i < m) : n ||| 2 ^ i < 2 ^ m := Nat.or_lt_two_pow hn (Nat.pow_lt_pow_right (by decide) hi)
theorem clr_lt {n i m : Nat} (hn : n < 2 ^ m) : n ^^^ (n &&& 2 ^ i) < 2 ^ m := Nat.xor_lt_two_pow hn (Nat.lt_of_le_of_lt Nat.and_le_left hn)
/-- both sides of a name -/
def hiT (names : List Str) (s : Str) (A : Nat) : Nat := highM A (names.idxOf s) names.length ||| highM A (names.idxOf s) names.length >>> 2 ^ names.idxOf s
def loT (names : List Str) (s : Str) (A : Nat) : Nat := lowM A (names.idxOf s) names.length ||| lowM A (names.idxOf s) names.length <<< 2 ^ names.idxOf s
theorem hi_ev {s : Str} {a : Fm} {A n : Nat} (hs : s ∈ names) (h : TrOk names a A) (hn : n < 2 ^ names.length) : (hiT names s A).testBit n = a.ev (upT (fun x => n.testBit (names.idxOf x)) s true) := by
  unfold hiT
  rw [high_bit (idx_lt hs) hn, h.2 _ (set_lt hn (idx_lt hs)), set_ev hs]
theorem lo_ev {s : Str} {a : Fm} {A n : Nat} (hs : s ∈ names) (h : TrOk names a A) (hn : n < 2 ^ names.length) : (loT names s A).testBit n = a.ev (upT (fun x => n.testBit (names.idxOf x)) s false) := by
  unfold loT
  rw [low_bit (idx_lt hs) hn, h.2 _ (clr_lt hn), clr_ev hs]
theorem hi_lt {s : Str} {A : Nat} (hs : s ∈ names) (h : A < 2 ^ 2 ^ names.length) : hiT names s A < 2 ^ 2 ^ names.length := by
  have h1 : highM A (names.idxOf s) names.length < 2 ^ 2 ^ names.length := Nat.lt_of_le_of_lt Nat.and_le_left h
  exact Nat.or_lt_two_pow h1 (Nat.lt_of_le_of_lt (Nat.shiftRight_le _ _) h1)
theorem lo_lt {s : Str} {A : Nat} (hs : s ∈ names) (h : A < 2 ^ 2 ^ names.length) : loT names s A < 2 ^ 2 ^ names.length := by
  have hi := idx_lt hs
  have h1 : lowM A (names.idxOf s) names.length < 2 ^ 2 ^ names.length := Nat.xor_lt_two_pow h (Nat.lt_of_le_of_lt Nat.and_le_left h)
  refine Nat.or_lt_two_pow h1 (Nat.lt_pow_two_of_testBit _ fun b hb => ?_)
  rw [Nat.testBit_shiftLeft]
  unfold lowM
  rw [andNot_bit, mask_bit, mask_two hi]
  by_cases hge : 2 ^ names.idxOf s ≤ b
  · by_cases hlt : b - 2 ^ names.idxOf s < 2 ^ names.length
    · have e2 : (b - 2 ^ names.idxOf s).testBit (names.idxOf s) = true := by
        have hb2 : b.testBit (names.idxOf s) = false := by
          have e : b = 2 ^ names.length + (b - 2 ^ names.length) := by omega
          have hr : b - 2 ^ names.length < 2 ^ names.idxOf s := by omega
          rw [e, Nat.testBit_two_pow_add_gt hi, Nat.testBit_lt_two_pow hr]
        have h3 : (2 ^ names.idxOf s + (b - 2 ^ names.idxOf s)).testBit (names.idxOf s) = !(b - 2 ^ names.idxOf s).testBit (names.idxOf s) := Nat.testBit_two_pow_add_eq _ _
        rw [show 2 ^ names.idxOf s + (b - 2 ^ names.idxOf s) = b by omega, hb2] at h3
        cases h4 : (b - 2 ^ names.idxOf s).testBit (names.idxOf s)
        · rw [h4] at h3; cases h3
        · rfl
      rw [e2, decide_eq_true hlt]
      simp
    · rw [Nat.testBit_lt_two_pow (Nat.lt_of_lt_of_le h (Nat.pow_le_pow_right (by decide) (by omega)))]
      simp
  · simp [hge]
theorem tr_qu {w : Bool} {s : Str} {a : Fm} {A : Nat} (hs : s ∈ names) (h : TrOk names a A) : TrOk names (.qu w s a) (if w then hiT names s A ||| loT names s A else hiT names s A &&& loT names s A) := by
  cases w with
  | true => exact ⟨Nat.or_lt_two_pow (hi_lt hs h.1) (lo_lt hs h.1), fun n hn => by rw [if_pos rfl, Nat.testBit_or, hi_ev hs h hn, lo_ev hs h hn]; rfl⟩
  | false => exact ⟨Nat.and_lt_two_pow _ (lo_lt hs h.1), fun n hn => by rw [if_neg Bool.false_ne_true, Nat.testBit_and, hi_ev hs h hn, lo_ev hs h hn]; rfl⟩
theorem tr_put {s : Str} {a b : Fm} {A B : Nat} (hs : s ∈ names) (ha : TrOk names a A) (hb : TrOk names b B) : TrOk names (.put s a b) (A &&& hiT names s B ||| ((2 ^ 2 ^ names.length - 1) ^^^ A) &&& loT names s B) := by
  refine ⟨Nat.or_lt_two_pow (Nat.and_lt_two_pow _ (hi_lt hs hb.1)) (Nat.and_lt_two_pow _ (lo_lt hs hb.1)), fun n hn => ?_⟩
  rw [Nat.testBit_or, Nat.testBit_and, Nat.testBit_and, Nat.testBit_xor, Nat.testBit_two_pow_sub_one, decide_eq_true hn, ha.2 n hn, hi_ev hs hb hn, lo_ev hs hb hn]
  simp only [Fm.ev]
  cases a.ev _ <;> simp
end
end Kw

set_option Elab.async false
set_option linter.all false
set_option maxRecDepth 100000
set_option maxHeartbeats 2000000
/-! Law k03: truths_of runs. -/
namespace Kw
open PySem

def valOf (x : R D) : D := match x with
  | some p => p.1
  | none => .non
theorem valOf_eq {x : R D} {d : D} {st : Store} (h : x = some (d, st)) : valOf x = d := by rw [h]; rfl
theorem bi_len {st : Store} {ds : List D} : biD .len [.lst ds] st = some (.int ds.length, st) := rfl
def Fm.word : Fm → Str
  | .yes => "yes"
  | .no => "no"
  | .nm _ => "name"
  | .not _ => "not"
  | .bin w _ _ => binW w
  | .ite _ _ _ => "if"
  | .qu w _ _ => quW w
  | .put _ _ _ => "put"
theorem ix_word {f : Fm} {st : Store} : ixD st f.d (.int 0) = some (.str f.word) := by cases f <;> rfl
def nmD (names : List Str) : D := .lst (names.map D.str)
def intD (T : Nat) : D := .int T
/-- the truths of the own parts, one by one -/
theorem lc_truths {k : Nat} {st : Store} {f : Fm} {names : List Str} {env : Env} {ps : List (Fm × Nat)} (he : env = [some f.d, some (nmD names), none, some (.str f.word), some (.int names.length), none, none, none]) (hf : f.parts = ps.map (·.1)) (hp : ∀ p ∈ ps, cfN tab (k + 1) F_truths_of [p.1.d, nmD names] st = some (intD p.2, st)) :
    evE (cfN tab (k + 1)) (.lc false (.call F_truths_of [(.var 7), (.var 1)]) (.nm 7) (.seq (.call F_own_parts [(.var 0)])) none [7]) env st = some (.lst (ps.map fun p => intD p.2), st) := by
  subst he
  have h1 := own_ok (k := k) f (st := st)
  rw [hf, List.map_map] at h1
  have hlen : ps.length ≤ 3 := by
    have e : f.parts.length = ps.length := by rw [hf, List.length_map]
    rw [← e]
    cases f <;> simp [Fm.parts]
  have hi : evI (cfN tab (k + 1)) (.seq (.call F_own_parts [(.var 0)])) [some f.d, some (nmD names), none, some (.str f.word), some (.int names.length), none, none, none] st = some (ps.map (Fm.d ∘ Prod.fst), st) := by
    rw [x_seq]
    simp only [x_var, x_con, x_glob, x_tup, x_lst, x_bin, x_neg, x_inv, x_cmp, x_not, x_ite, x_ix, x_sl, x_call, x_bi, x_Es0, x_Es1, x_O0, x_O1, x_C0, x_asg, x_par2, x_aug, x_if, x_ret, x_ex, x_never, x_Ss0, x_Ss1, R.bind_some, List.getElem?_cons_zero, List.getElem?_cons_succ, List.set_cons_zero, List.set_cons_succ, Option.map_some, List.map_cons, List.map_nil, List.replicate, List.cons_append, List.nil_append, List.append_nil, Nat.sub_self, asg_nm, asg_tup, asgs_nil, asgs_cons, List.length_cons, List.length_nil, rd'_int, rd'_str, rd'_tup, rd_lst', rd_bl, rd_non, rd_scr, t_bl, t_int, t_non, Nat.reduceAdd, Nat.reduceLT, reduceIte, and_self, h1, itemsOf]
  rw [x_lcp (h := fun d => valOf (cfN tab (k + 1) F_truths_of [d, nmD names] st)) hi (by rw [List.length_map]; exact Nat.le_trans hlen (by decide)) (fun d hd => ?_)]
  · rw [List.map_map]
    refine congrArg (fun l => some (D.lst l, st)) (List.map_congr_left fun p hm => ?_)
    exact valOf_eq (hp p hm)
  · obtain ⟨p, hm, rfl⟩ := List.mem_map.mp hd
    refine ⟨[some f.d, some (nmD names), none, some (.str f.word), some (.int names.length), none, none, some p.1.d], rfl, ?_⟩
    have e := hp p hm
    simp only [x_var, x_con, x_glob, x_tup, x_lst, x_bin, x_neg, x_inv, x_cmp, x_not, x_ite, x_ix, x_sl, x_call, x_bi, x_Es0, x_Es1, x_O0, x_O1, x_C0, x_asg, x_par2, x_aug, x_if, x_ret, x_ex, x_never, x_Ss0, x_Ss1, R.bind_some, List.getElem?_cons_zero, List.getElem?_cons_succ, List.set_cons_zero, List.set_cons_succ, Option.map_some, List.map_cons, List.map_nil, List.replicate, List.cons_append, List.nil_append, List.append_nil, Nat.sub_self, asg_nm, asg_tup, asgs_nil, asgs_cons, List.length_cons, List.length_nil, rd'_int, rd'_str, rd'_tup, rd_lst', rd_bl, rd_non, rd_scr, t_bl, t_int, t_non, Nat.reduceAdd, Nat.reduceLT, reduceIte, and_self, Function.comp, e, valOf]
theorem tr_start {k : Nat} {st : Store} {f : Fm} {names : List Str} {ps : List (Fm × Nat)} {r : R Fl} (hf : f.parts = ps.map (·.1)) (hp : ∀ p ∈ ps, cfN tab (k + 1) F_truths_of [p.1.d, nmD names] st = some (intD p.2, st))
    (h : evSs (cfN tab (k + 1)) (ir_truths_of.body.drop 2) [some f.d, some (nmD names), some (.lst (ps.map fun p => intD p.2)), some (.str f.word), some (.int names.length), none, none, none] st = r) :
    evSs (cfN tab (k + 1)) ir_truths_of.body ([f.d, nmD names].map some ++ List.replicate 6 none) st = r := by
  have h1 := lc_truths (k := k) (st := st) rfl hf hp
  rw [← h]
  have hlen : (names.map D.str).length = names.length := List.length_map _
  simp only [ir_truths_of, x_var, x_con, x_glob, x_tup, x_lst, x_bin, x_neg, x_inv, x_cmp, x_not, x_ite, x_ix, x_sl, x_call, x_bi, x_Es0, x_Es1, x_O0, x_O1, x_C0, x_asg, x_par2, x_aug, x_if, x_ret, x_ex, x_never, x_Ss0, x_Ss1, R.bind_some, List.getElem?_cons_zero, List.getElem?_cons_succ, List.set_cons_zero, List.set_cons_succ, Option.map_some, List.map_cons, List.map_nil, List.replicate, List.cons_append, List.nil_append, List.append_nil, Nat.sub_self, asg_nm, asg_tup, asgs_nil, asgs_cons, List.length_cons, List.length_nil, rd'_int, rd'_str, rd'_tup, rd_lst', rd_bl, rd_non, rd_scr, t_bl, t_int, t_non, Nat.reduceAdd, Nat.reduceLT, reduceIte, and_self, ix_word, nmD, bi_len, hlen, List.drop_succ_cons, List.drop_zero] at h1 ⊢
  simp only [h1, x_var, x_con, x_glob, x_tup, x_lst, x_bin, x_neg, x_inv, x_cmp, x_not, x_ite, x_ix, x_sl, x_call, x_bi, x_Es0, x_Es1, x_O0, x_O1, x_C0, x_asg, x_par2, x_aug, x_if, x_ret, x_ex, x_never, x_Ss0, x_Ss1, R.bind_some, List.getElem?_cons_zero, List.getElem?_cons_succ, List.set_cons_zero, List.set_cons_succ, Option.map_some, List.map_cons, List.map_nil, List.replicate, List.cons_append, List.nil_append, List.append_nil, Nat.sub_self, asg_nm, asg_tup, asgs_nil, asgs_cons, List.length_cons, List.length_nil, rd'_int, rd'_str, rd'_tup, rd_lst', rd_bl, rd_non, rd_scr, t_bl, t_int, t_non, Nat.reduceAdd, Nat.reduceLT, reduceIte, and_self]
theorem pls_ints : ∀ {l : List Nat}, Pls 0 (l.map intD)
  | [] => .nil 0
  | x :: l => .cons (.int 0 _) pls_ints
theorem cmp_ints {st : Store} {l : List Nat} : cmpD .Eq st (.lst (l.map intD)) (.lst []) = some l.isEmpty := by
  rw [cmp_nil pls_ints (by omega)]
  cases l <;> rfl
section
variable {k : Nat} {st : Store} {names : List Str}
theorem leaf_ok {f : Fm} (hm : names.length ≤ 10) (hok : ∀ x ∈ names, okS x) (hf : f = .yes ∨ f = .no ∨ ∃ s, f = .nm s ∧ s ∈ names) : ∃ T, cfN tab (k + 2) F_leaf_truths [f.d, nmD names] st = some (intD T, st) ∧ TrOk names f T := by
  have hlen : (names.map D.str).length = names.length := List.length_map _
  rcases hf with rfl | rfl | ⟨s, rfl, hs⟩
  · refine ⟨_, run_rt rfl rfl ?_, tr_yes⟩
    have c1 : cmpD .Eq st (.str "yes") (.str "name") = some false := by kernel_rfl
    have c2 : cmpD .Eq st (.str "yes") (.str "yes") = some true := by kernel_rfl
    have i0 : ixD st Fm.yes.d (.int 0) = some (.str "yes") := rfl
    have w := whole_ok (k := k) (st := st) hm
    simp only [ir_leaf_truths, x_var, x_con, x_glob, x_tup, x_lst, x_bin, x_neg, x_inv, x_cmp, x_not, x_ite, x_ix, x_sl, x_call, x_bi, x_Es0, x_Es1, x_O0, x_O1, x_C0, x_asg, x_par2, x_aug, x_if, x_ret, x_ex, x_never, x_Ss0, x_Ss1, R.bind_some, List.getElem?_cons_zero, List.getElem?_cons_succ, List.set_cons_zero, List.set_cons_succ, Option.map_some, List.map_cons, List.map_nil, List.replicate, List.cons_append, List.nil_append, List.append_nil, Nat.sub_self, asg_nm, asg_tup, asgs_nil, asgs_cons, List.length_cons, List.length_nil, rd'_int, rd'_str, rd'_tup, rd_lst', rd_bl, rd_non, rd_scr, t_bl, t_int, t_non, Nat.reduceAdd, Nat.reduceLT, reduceIte, and_self, i0, c1, c2, nmD, bi_len, hlen, w]
    rfl
  · refine ⟨_, run_rt rfl rfl ?_, tr_no⟩
    have c1 : cmpD .Eq st (.str "no") (.str "name") = some false := by kernel_rfl
    have c2 : cmpD .Eq st (.str "no") (.str "yes") = some false := by kernel_rfl
    have i0 : ixD st Fm.no.d (.int 0) = some (.str "no") := rfl
    simp only [ir_leaf_truths, x_var, x_con, x_glob, x_tup, x_lst, x_bin, x_neg, x_inv, x_cmp, x_not, x_ite, x_ix, x_sl, x_call, x_bi, x_Es0, x_Es1, x_O0, x_O1, x_C0, x_asg, x_par2, x_aug, x_if, x_ret, x_ex, x_never, x_Ss0, x_Ss1, R.bind_some, List.getElem?_cons_zero, List.getElem?_cons_succ, List.set_cons_zero, List.set_cons_succ, Option.map_some, List.map_cons, List.map_nil, List.replicate, List.cons_append, List.nil_append, List.append_nil, Nat.sub_self, asg_nm, asg_tup, asgs_nil, asgs_cons, List.length_cons, List.length_nil, rd'_int, rd'_str, rd'_tup, rd_lst', rd_bl, rd_non, rd_scr, t_bl, t_int, t_non, Nat.reduceAdd, Nat.reduceLT, reduceIte, and_self, i0, c1, c2]
    rfl
  · refine ⟨_, run_rt rfl rfl ?_, tr_nm hs⟩
    have c1 : cmpD .Eq st (.str "name") (.str "name") = some true := by kernel_rfl
    have i0 : ixD st (Fm.nm s).d (.int 0) = some (.str "name") := rfl
    have i1 : ixD st (Fm.nm s).d (.int 1) = some (.str s) := rfl
    have m := mask_ok (k := k) (st := st) (idx_lt hs) hm
    have ix := idx_ok (st := st) (hok s hs) hok hs
    have ty : mtTy .index (.lst (names.map D.str)) st = true := rfl
    simp only [ir_leaf_truths, x_var, x_con, x_glob, x_tup, x_lst, x_bin, x_neg, x_inv, x_cmp, x_not, x_ite, x_ix, x_sl, x_call, x_bi, x_Es0, x_Es1, x_O0, x_O1, x_C0, x_asg, x_par2, x_aug, x_if, x_ret, x_ex, x_never, x_Ss0, x_Ss1, R.bind_some, List.getElem?_cons_zero, List.getElem?_cons_succ, List.set_cons_zero, List.set_cons_succ, Option.map_some, List.map_cons, List.map_nil, List.replicate, List.cons_append, List.nil_append, List.append_nil, Nat.sub_self, asg_nm, asg_tup, asgs_nil, asgs_cons, List.length_cons, List.length_nil, rd'_int, rd'_str, rd'_tup, rd_lst', rd_bl, rd_non, rd_scr, t_bl, t_int, t_non, Nat.reduceAdd, Nat.reduceLT, reduceIte, and_self, i0, i1, c1, x_mt, ty, ix, nmD, bi_len, hlen, m]
    rfl
end
end Kw

set_option Elab.async false
set_option linter.all false
set_option maxRecDepth 100000
set_option maxHeartbeats 2000000
/-! Law k03: truths_of, whole. -/
namespace Kw
open PySem

theorem d_xorI {a b : Nat} : binD .BitXor (intD a) (intD b) = some (intD (a ^^^ b)) := d_xor
theorem d_andI {a b : Nat} : binD .BitAnd (intD a) (intD b) = some (intD (a &&& b)) := d_and
theorem d_orI {a b : Nat} : binD .BitOr (intD a) (intD b) = some (intD (a ||| b)) := d_or
theorem rd_intD {st : Store} {a : Nat} : rd st (intD a) = intD a := rfl
theorem joints_in {st : Store} (w : Fin 3) : cmpD .In st (.str (binW w)) (.tup [.str "and", .str "or", .str "xor"]) = some true := by
  match w with
  | 0 => kernel_rfl
  | 1 => kernel_rfl
  | 2 => kernel_rfl
theorem truths_ok {names : List Str} (hm : names.length ≤ 10) (hok : ∀ x ∈ names, okS x) : ∀ (f : Fm), (∀ x ∈ f.names, x ∈ names) → ∀ k, f.deep + 4 ≤ k → ∀ st, ∃ T : Nat, cfN tab k F_truths_of [f.d, nmD names] st = some (intD T, st) ∧ TrOk names f T := by
  have hlen : (names.map D.str).length = names.length := List.length_map _
  intro f
  induction f with
  | yes =>
    intro _ k hk st
    obtain ⟨k, rfl⟩ : ∃ j, k = j + 4 := ⟨k - 4, by omega⟩
    obtain ⟨T, e, t⟩ := leaf_ok (k := k + 1) (st := st) (f := .yes) hm hok (.inl rfl)
    refine ⟨T, run_rt rfl rfl (tr_start (k := k + 2) (ps := []) rfl (fun p hp => nomatch hp) ?_), t⟩
    have c := cmp_ints (st := st) (l := [])
    simp only [ir_truths_of, List.drop_succ_cons, List.drop_zero, x_var, x_con, x_glob, x_tup, x_lst, x_bin, x_neg, x_inv, x_cmp, x_not, x_ite, x_ix, x_sl, x_call, x_bi, x_Es0, x_Es1, x_O0, x_O1, x_C0, x_asg, x_par2, x_aug, x_if, x_ret, x_ex, x_never, x_Ss0, x_Ss1, R.bind_some, List.getElem?_cons_zero, List.getElem?_cons_succ, List.set_cons_zero, List.set_cons_succ, Option.map_some, List.map_cons, List.map_nil, List.replicate, List.cons_append, List.nil_append, List.append_nil, Nat.sub_self, asg_nm, asg_tup, asgs_nil, asgs_cons, List.length_cons, List.length_nil, rd'_int, rd'_str, rd'_tup, rd_lst', rd_bl, rd_non, rd_scr, t_bl, t_int, t_non, Nat.reduceAdd, Nat.reduceLT, reduceIte, and_self, List.isEmpty_nil] at c ⊢
    simp only [c, x_var, x_con, x_glob, x_tup, x_lst, x_bin, x_neg, x_inv, x_cmp, x_not, x_ite, x_ix, x_sl, x_call, x_bi, x_Es0, x_Es1, x_O0, x_O1, x_C0, x_asg, x_par2, x_aug, x_if, x_ret, x_ex, x_never, x_Ss0, x_Ss1, R.bind_some, List.getElem?_cons_zero, List.getElem?_cons_succ, List.set_cons_zero, List.set_cons_succ, Option.map_some, List.map_cons, List.map_nil, List.replicate, List.cons_append, List.nil_append, List.append_nil, Nat.sub_self, asg_nm, asg_tup, asgs_nil, asgs_cons, List.length_cons, List.length_nil, rd'_int, rd'_str, rd'_tup, rd_lst', rd_bl, rd_non, rd_scr, t_bl, t_int, t_non, Nat.reduceAdd, Nat.reduceLT, reduceIte, and_self, e]
  | no =>
    intro _ k hk st
    obtain ⟨k, rfl⟩ : ∃ j, k = j + 4 := ⟨k - 4, by omega⟩
    obtain ⟨T, e, t⟩ := leaf_ok (k := k + 1) (st := st) (f := .no) hm hok (.inr (.inl rfl))
    refine ⟨T, run_rt rfl rfl (tr_start (k := k + 2) (ps := []) rfl (fun p hp => nomatch hp) ?_), t⟩
    have c := cmp_ints (st := st) (l := [])
    simp only [ir_truths_of, List.drop_succ_cons, List.drop_zero, x_var, x_con, x_glob, x_tup, x_lst, x_bin, x_neg, x_inv, x_cmp, x_not, x_ite, x_ix, x_sl, x_call, x_bi, x_Es0, x_Es1, x_O0, x_O1, x_C0, x_asg, x_par2, x_aug, x_if, x_ret, x_ex, x_never, x_Ss0, x_Ss1, R.bind_some, List.getElem?_cons_zero, List.getElem?_cons_succ, List.set_cons_zero, List.set_cons_succ, Option.map_some, List.map_cons, List.map_nil, List.replicate, List.cons_append, List.nil_append, List.append_nil, Nat.sub_self, asg_nm, asg_tup, asgs_nil, asgs_cons, List.length_cons, List.length_nil, rd'_int, rd'_str, rd'_tup, rd_lst', rd_bl, rd_non, rd_scr, t_bl, t_int, t_non, Nat.reduceAdd, Nat.reduceLT, reduceIte, and_self, List.isEmpty_nil] at c ⊢
    simp only [c, x_var, x_con, x_glob, x_tup, x_lst, x_bin, x_neg, x_inv, x_cmp, x_not, x_ite, x_ix, x_sl, x_call, x_bi, x_Es0, x_Es1, x_O0, x_O1, x_C0, x_asg, x_par2, x_aug, x_if, x_ret, x_ex, x_never, x_Ss0, x_Ss1, R.bind_some, List.getElem?_cons_zero, List.getElem?_cons_succ, List.set_cons_zero, List.set_cons_succ, Option.map_some, List.map_cons, List.map_nil, List.replicate, List.cons_append, List.nil_append, List.append_nil, Nat.sub_self, asg_nm, asg_tup, asgs_nil, asgs_cons, List.length_cons, List.length_nil, rd'_int, rd'_str, rd'_tup, rd_lst', rd_bl, rd_non, rd_scr, t_bl, t_int, t_non, Nat.reduceAdd, Nat.reduceLT, reduceIte, and_self, e]
  | nm s =>
    intro hs k hk st
    obtain ⟨k, rfl⟩ : ∃ j, k = j + 4 := ⟨k - 4, by omega⟩
    obtain ⟨T, e, t⟩ := leaf_ok (k := k + 1) (st := st) (f := .nm s) hm hok (.inr (.inr ⟨s, rfl, hs s (by simp [Fm.names])⟩))
    refine ⟨T, run_rt rfl rfl (tr_start (k := k + 2) (ps := []) rfl (fun p hp => nomatch hp) ?_), t⟩
    have c := cmp_ints (st := st) (l := [])
    simp only [ir_truths_of, List.drop_succ_cons, List.drop_zero, x_var, x_con, x_glob, x_tup, x_lst, x_bin, x_neg, x_inv, x_cmp, x_not, x_ite, x_ix, x_sl, x_call, x_bi, x_Es0, x_Es1, x_O0, x_O1, x_C0, x_asg, x_par2, x_aug, x_if, x_ret, x_ex, x_never, x_Ss0, x_Ss1, R.bind_some, List.getElem?_cons_zero, List.getElem?_cons_succ, List.set_cons_zero, List.set_cons_succ, Option.map_some, List.map_cons, List.map_nil, List.replicate, List.cons_append, List.nil_append, List.append_nil, Nat.sub_self, asg_nm, asg_tup, asgs_nil, asgs_cons, List.length_cons, List.length_nil, rd'_int, rd'_str, rd'_tup, rd_lst', rd_bl, rd_non, rd_scr, t_bl, t_int, t_non, Nat.reduceAdd, Nat.reduceLT, reduceIte, and_self, List.isEmpty_nil] at c ⊢
    simp only [c, x_var, x_con, x_glob, x_tup, x_lst, x_bin, x_neg, x_inv, x_cmp, x_not, x_ite, x_ix, x_sl, x_call, x_bi, x_Es0, x_Es1, x_O0, x_O1, x_C0, x_asg, x_par2, x_aug, x_if, x_ret, x_ex, x_never, x_Ss0, x_Ss1, R.bind_some, List.getElem?_cons_zero, List.getElem?_cons_succ, List.set_cons_zero, List.set_cons_succ, Option.map_some, List.map_cons, List.map_nil, List.replicate, List.cons_append, List.nil_append, List.append_nil, Nat.sub_self, asg_nm, asg_tup, asgs_nil, asgs_cons, List.length_cons, List.length_nil, rd'_int, rd'_str, rd'_tup, rd_lst', rd_bl, rd_non, rd_scr, t_bl, t_int, t_non, Nat.reduceAdd, Nat.reduceLT, reduceIte, and_self, e]
  | not a ih =>
    intro hs k hk st
    simp only [Fm.deep] at hk
    obtain ⟨k, rfl⟩ : ∃ j, k = j + 4 := ⟨k - 4, by omega⟩
    obtain ⟨A, ea, ta⟩ := ih (fun x hx => hs x (by simp [Fm.names, hx])) (k + 3) (by omega) st
    refine ⟨_, run_rt rfl rfl (tr_start (k := k + 2) (ps := [(a, A)]) rfl (fun p hp => by rw [List.mem_singleton.mp hp]; exact ea) ?_), tr_not ta⟩
    have c := cmp_ints (st := st) (l := [A])
    have c1 : cmpD .Eq st (.str "not") (.str "not") = some true := by kernel_rfl
    have w := whole_ok (k := k + 2) (st := st) hm
    have i0 : ixD st (.lst [intD A]) (.int 0) = some (intD A) := rfl
    have x : binD .BitXor (.int ((2 ^ 2 ^ names.length - 1 : Nat) : Int)) (intD A) = some (intD ((2 ^ 2 ^ names.length - 1) ^^^ A)) := d_xor
    simp only [ir_truths_of, List.drop_succ_cons, List.drop_zero, x_var, x_con, x_glob, x_tup, x_lst, x_bin, x_neg, x_inv, x_cmp, x_not, x_ite, x_ix, x_sl, x_call, x_bi, x_Es0, x_Es1, x_O0, x_O1, x_C0, x_asg, x_par2, x_aug, x_if, x_ret, x_ex, x_never, x_Ss0, x_Ss1, R.bind_some, List.getElem?_cons_zero, List.getElem?_cons_succ, List.set_cons_zero, List.set_cons_succ, Option.map_some, List.map_cons, List.map_nil, List.replicate, List.cons_append, List.nil_append, List.append_nil, Nat.sub_self, asg_nm, asg_tup, asgs_nil, asgs_cons, List.length_cons, List.length_nil, rd'_int, rd'_str, rd'_tup, rd_lst', rd_bl, rd_non, rd_scr, t_bl, t_int, t_non, Nat.reduceAdd, Nat.reduceLT, reduceIte, and_self, List.isEmpty_cons] at c ⊢
    simp only [c, x_var, x_con, x_glob, x_tup, x_lst, x_bin, x_neg, x_inv, x_cmp, x_not, x_ite, x_ix, x_sl, x_call, x_bi, x_Es0, x_Es1, x_O0, x_O1, x_C0, x_asg, x_par2, x_aug, x_if, x_ret, x_ex, x_never, x_Ss0, x_Ss1, R.bind_some, List.getElem?_cons_zero, List.getElem?_cons_succ, List.set_cons_zero, List.set_cons_succ, Option.map_some, List.map_cons, List.map_nil, List.replicate, List.cons_append, List.nil_append, List.append_nil, Nat.sub_self, asg_nm, asg_tup, asgs_nil, asgs_cons, List.length_cons, List.length_nil, rd'_int, rd'_str, rd'_tup, rd_lst', rd_bl, rd_non, rd_scr, t_bl, t_int, t_non, Nat.reduceAdd, Nat.reduceLT, reduceIte, and_self, Fm.word, c1, w, i0, rd_intD, x]
  | bin w a b iha ihb =>
    intro hs k hk st
    simp only [Fm.deep] at hk
    obtain ⟨k, rfl⟩ : ∃ j, k = j + 4 := ⟨k - 4, by omega⟩
    obtain ⟨A, ea, ta⟩ := iha (fun x hx => hs x (by simp [Fm.names, hx])) (k + 3) (by omega) st
    obtain ⟨B, eb, tb⟩ := ihb (fun x hx => hs x (by simp [Fm.names, hx])) (k + 3) (by omega) st
    refine ⟨_, run_rt rfl rfl (tr_start (k := k + 2) (ps := [(a, A), (b, B)]) rfl (fun p hp => ?_) ?_), tr_bin (w := w) ta tb⟩
    · simp only [List.mem_cons, List.not_mem_nil, or_false] at hp
      rcases hp with rfl | rfl
      · exact ea
      · exact eb
    · have c := cmp_ints (st := st) (l := [A, B])
      have c1 : cmpD .Eq st (.str (binW w)) (.str "not") = some false := by
        match w with
        | 0 => kernel_rfl
        | 1 => kernel_rfl
        | 2 => kernel_rfl
      have j := joint_ok (k := k + 2) (st := st) w (a := A) (b := B)
      have i0 : ixD st (.lst [intD A, intD B]) (.int 0) = some (.int A) := rfl
      have i1 : ixD st (.lst [intD A, intD B]) (.int 1) = some (.int B) := rfl
      have jn := joints_in (st := st) w
      simp only [ir_truths_of, List.drop_succ_cons, List.drop_zero, x_var, x_con, x_glob, x_tup, x_lst, x_bin, x_neg, x_inv, x_cmp, x_not, x_ite, x_ix, x_sl, x_call, x_bi, x_Es0, x_Es1, x_O0, x_O1, x_C0, x_asg, x_par2, x_aug, x_if, x_ret, x_ex, x_never, x_Ss0, x_Ss1, R.bind_some, List.getElem?_cons_zero, List.getElem?_cons_succ, List.set_cons_zero, List.set_cons_succ, Option.map_some, List.map_cons, List.map_nil, List.replicate, List.cons_append, List.nil_append, List.append_nil, Nat.sub_self, asg_nm, asg_tup, asgs_nil, asgs_cons, List.length_cons, List.length_nil, rd'_int, rd'_str, rd'_tup, rd_lst', rd_bl, rd_non, rd_scr, t_bl, t_int, t_non, Nat.reduceAdd, Nat.reduceLT, reduceIte, and_self, List.isEmpty_cons] at c ⊢
      simp only [c, x_var, x_con, x_glob, x_tup, x_lst, x_bin, x_neg, x_inv, x_cmp, x_not, x_ite, x_ix, x_sl, x_call, x_bi, x_Es0, x_Es1, x_O0, x_O1, x_C0, x_asg, x_par2, x_aug, x_if, x_ret, x_ex, x_never, x_Ss0, x_Ss1, R.bind_some, List.getElem?_cons_zero, List.getElem?_cons_succ, List.set_cons_zero, List.set_cons_succ, Option.map_some, List.map_cons, List.map_nil, List.replicate, List.cons_append, List.nil_append, List.append_nil, Nat.sub_self, asg_nm, asg_tup, asgs_nil, asgs_cons, List.length_cons, List.length_nil, rd'_int, rd'_str, rd'_tup, rd_lst', rd_bl, rd_non, rd_scr, t_bl, t_int, t_non, Nat.reduceAdd, Nat.reduceLT, reduceIte, and_self, Fm.word, c1, jn, i0, i1, j]
      rfl
  | ite a b c iha ihb ihc =>
    intro hs k hk st
    simp only [Fm.deep] at hk
    obtain ⟨k, rfl⟩ : ∃ j, k = j + 4 := ⟨k - 4, by omega⟩
    obtain ⟨A, ea, ta⟩ := iha (fun x hx => hs x (by simp [Fm.names, hx])) (k + 3) (by omega) st
    obtain ⟨B, eb, tb⟩ := ihb (fun x hx => hs x (by simp [Fm.names, hx])) (k + 3) (by omega) st
    obtain ⟨C, ec, tc⟩ := ihc (fun x hx => hs x (by simp [Fm.names, hx])) (k + 3) (by omega) st
    refine ⟨_, run_rt rfl rfl (tr_start (k := k + 2) (ps := [(a, A), (b, B), (c, C)]) rfl (fun p hp => ?_) ?_), tr_ite ta tb tc⟩
    · simp only [List.mem_cons, List.not_mem_nil, or_false] at hp
      rcases hp with rfl | rfl | rfl
      · exact ea
      · exact eb
      · exact ec
    · have c := cmp_ints (st := st) (l := [A, B, C])
      have c1 : cmpD .Eq st (.str "if") (.str "not") = some false := by kernel_rfl
      have c2 : cmpD .In st (.str "if") (.tup [.str "and", .str "or", .str "xor"]) = some false := by kernel_rfl
      have c3 : cmpD .Eq st (.str "if") (.str "if") = some true := by kernel_rfl
      have w := whole_ok (k := k + 2) (st := st) hm
      have i0 : ixD st (.lst [intD A, intD B, intD C]) (.int 0) = some (intD A) := rfl
      have i1 : ixD st (.lst [intD A, intD B, intD C]) (.int 1) = some (intD B) := rfl
      have i2 : ixD st (.lst [intD A, intD B, intD C]) (.int 2) = some (intD C) := rfl
      have x : binD .BitXor (.int ((2 ^ 2 ^ names.length - 1 : Nat) : Int)) (intD A) = some (intD ((2 ^ 2 ^ names.length - 1) ^^^ A)) := d_xor
      simp only [ir_truths_of, List.drop_succ_cons, List.drop_zero, x_var, x_con, x_glob, x_tup, x_lst, x_bin, x_neg, x_inv, x_cmp, x_not, x_ite, x_ix, x_sl, x_call, x_bi, x_Es0, x_Es1, x_O0, x_O1, x_C0, x_asg, x_par2, x_aug, x_if, x_ret, x_ex, x_never, x_Ss0, x_Ss1, R.bind_some, List.getElem?_cons_zero, List.getElem?_cons_succ, List.set_cons_zero, List.set_cons_succ, Option.map_some, List.map_cons, List.map_nil, List.replicate, List.cons_append, List.nil_append, List.append_nil, Nat.sub_self, asg_nm, asg_tup, asgs_nil, asgs_cons, List.length_cons, List.length_nil, rd'_int, rd'_str, rd'_tup, rd_lst', rd_bl, rd_non, rd_scr, t_bl, t_int, t_non, Nat.reduceAdd, Nat.reduceLT, reduceIte, and_self, List.isEmpty_cons] at c ⊢
      simp only [c, x_var, x_con, x_glob, x_tup, x_lst, x_bin, x_neg, x_inv, x_cmp, x_not, x_ite, x_ix, x_sl, x_call, x_bi, x_Es0, x_Es1, x_O0, x_O1, x_C0, x_asg, x_par2, x_aug, x_if, x_ret, x_ex, x_never, x_Ss0, x_Ss1, R.bind_some, List.getElem?_cons_zero, List.getElem?_cons_succ, List.set_cons_zero, List.set_cons_succ, Option.map_some, List.map_cons, List.map_nil, List.replicate, List.cons_append, List.nil_append, List.append_nil, Nat.sub_self, asg_nm, asg_tup, asgs_nil, asgs_cons, List.length_cons, List.length_nil, rd'_int, rd'_str, rd'_tup, rd_lst', rd_bl, rd_non, rd_scr, t_bl, t_int, t_non, Nat.reduceAdd, Nat.reduceLT, reduceIte, and_self, Fm.word, c1, c2, c3, w, i0, i1, i2, rd_intD, x, d_andI, d_orI]
  | qu w s a ih =>
    intro hs k hk st
    simp only [Fm.deep] at hk
    obtain ⟨k, rfl⟩ : ∃ j, k = j + 4 := ⟨k - 4, by omega⟩
    have hsn : s ∈ names := hs s (by simp [Fm.names])
    obtain ⟨A, ea, ta⟩ := ih (fun x hx => hs x (by simp [Fm.names, hx])) (k + 3) (by omega) st
    refine ⟨_, run_rt rfl rfl (tr_start (k := k + 2) (ps := [(a, A)]) rfl (fun p hp => by rw [List.mem_singleton.mp hp]; exact ea) ?_), tr_qu (w := w) hsn ta⟩
    have c := cmp_ints (st := st) (l := [A])
    have c1 : cmpD .Eq st (.str (quW w)) (.str "not") = some false := by cases w <;> kernel_rfl
    have c2 : cmpD .In st (.str (quW w)) (.tup [.str "and", .str "or", .str "xor"]) = some false := by cases w <;> kernel_rfl
    have c3 : cmpD .Eq st (.str (quW w)) (.str "if") = some false := by cases w <;> kernel_rfl
    have c4 : cmpD .Eq st (.str (quW w)) (.str "put") = some false := by cases w <;> kernel_rfl
    have c5 : cmpD .Eq st (.str (quW w)) (.str "some") = some w := by cases w <;> kernel_rfl
    have i0 : ixD st (.lst [intD A]) (.int (-1)) = some (.int A) := rfl
    have i1 : ixD st (Fm.qu w s a).d (.int 1) = some (.str s) := rfl
    have ix := idx_ok (st := st) (hok s hsn) hok hsn
    have ty : mtTy .index (.lst (names.map D.str)) st = true := rfl
    have sd : cfN tab (k + 3) F_sides_of [.int A, .int (names.idxOf s), .int names.length] st = some (.tup [intD (hiT names s A), intD (loT names s A)], st) := sides_ok (k := k + 1) (st := st) (idx_lt hsn) hm ta.1
    simp only [ir_truths_of, List.drop_succ_cons, List.drop_zero, x_var, x_con, x_glob, x_tup, x_lst, x_bin, x_neg, x_inv, x_cmp, x_not, x_ite, x_ix, x_sl, x_call, x_bi, x_Es0, x_Es1, x_O0, x_O1, x_C0, x_asg, x_par2, x_aug, x_if, x_ret, x_ex, x_never, x_Ss0, x_Ss1, R.bind_some, List.getElem?_cons_zero, List.getElem?_cons_succ, List.set_cons_zero, List.set_cons_succ, Option.map_some, List.map_cons, List.map_nil, List.replicate, List.cons_append, List.nil_append, List.append_nil, Nat.sub_self, asg_nm, asg_tup, asgs_nil, asgs_cons, List.length_cons, List.length_nil, rd'_int, rd'_str, rd'_tup, rd_lst', rd_bl, rd_non, rd_scr, t_bl, t_int, t_non, Nat.reduceAdd, Nat.reduceLT, reduceIte, and_self, List.isEmpty_cons] at c ⊢
    simp only [c, x_var, x_con, x_glob, x_tup, x_lst, x_bin, x_neg, x_inv, x_cmp, x_not, x_ite, x_ix, x_sl, x_call, x_bi, x_Es0, x_Es1, x_O0, x_O1, x_C0, x_asg, x_par2, x_aug, x_if, x_ret, x_ex, x_never, x_Ss0, x_Ss1, R.bind_some, List.getElem?_cons_zero, List.getElem?_cons_succ, List.set_cons_zero, List.set_cons_succ, Option.map_some, List.map_cons, List.map_nil, List.replicate, List.cons_append, List.nil_append, List.append_nil, Nat.sub_self, asg_nm, asg_tup, asgs_nil, asgs_cons, List.length_cons, List.length_nil, rd'_int, rd'_str, rd'_tup, rd_lst', rd_bl, rd_non, rd_scr, t_bl, t_int, t_non, Nat.reduceAdd, Nat.reduceLT, reduceIte, and_self, Fm.word, c1, c2, c3, i0, i1, x_mt, nmD, ty, ix, sd, c4, c5]
    cases w with
    | true => simp only [x_var, x_con, x_glob, x_tup, x_lst, x_bin, x_neg, x_inv, x_cmp, x_not, x_ite, x_ix, x_sl, x_call, x_bi, x_Es0, x_Es1, x_O0, x_O1, x_C0, x_asg, x_par2, x_aug, x_if, x_ret, x_ex, x_never, x_Ss0, x_Ss1, R.bind_some, List.getElem?_cons_zero, List.getElem?_cons_succ, List.set_cons_zero, List.set_cons_succ, Option.map_some, List.map_cons, List.map_nil, List.replicate, List.cons_append, List.nil_append, List.append_nil, Nat.sub_self, asg_nm, asg_tup, asgs_nil, asgs_cons, List.length_cons, List.length_nil, rd'_int, rd'_str, rd'_tup, rd_lst', rd_bl, rd_non, rd_scr, t_bl, t_int, t_non, Nat.reduceAdd, Nat.reduceLT, reduceIte, and_self, rd_intD, d_orI]
    | false => simp only [x_var, x_con, x_glob, x_tup, x_lst, x_bin, x_neg, x_inv, x_cmp, x_not, x_ite, x_ix, x_sl, x_call, x_bi, x_Es0, x_Es1, x_O0, x_O1, x_C0, x_asg, x_par2, x_aug, x_if, x_ret, x_ex, x_never, x_Ss0, x_Ss1, R.bind_some, List.getElem?_cons_zero, List.getElem?_cons_succ, List.set_cons_zero, List.set_cons_succ, Option.map_some, List.map_cons, List.map_nil, List.replicate, List.cons_append, List.nil_append, List.append_nil, Nat.sub_self, asg_nm, asg_tup, asgs_nil, asgs_cons, List.length_cons, List.length_nil, rd'_int, rd'_str, rd'_tup, rd_lst', rd_bl, rd_non, rd_scr, t_bl, t_int, t_non, Nat.reduceAdd, Nat.reduceLT, reduceIte, and_self, rd_intD, d_andI, Bool.false_eq_true]
  | put s a b iha ihb =>
    intro hs k hk st
    simp only [Fm.deep] at hk
    obtain ⟨k, rfl⟩ : ∃ j, k = j + 4 := ⟨k - 4, by omega⟩
    have hsn : s ∈ names := hs s (by simp [Fm.names])
    obtain ⟨A, ea, ta⟩ := iha (fun x hx => hs x (by simp [Fm.names, hx])) (k + 3) (by omega) st
    obtain ⟨B, eb, tb⟩ := ihb (fun x hx => hs x (by simp [Fm.names, hx])) (k + 3) (by omega) st
    refine ⟨_, run_rt rfl rfl (tr_start (k := k + 2) (ps := [(a, A), (b, B)]) rfl (fun p hp => ?_) ?_), tr_put hsn ta tb⟩
    · simp only [List.mem_cons, List.not_mem_nil, or_false] at hp
      rcases hp with rfl | rfl
      · exact ea
      · exact eb
    · have c := cmp_ints (st := st) (l := [A, B])
      have c1 : cmpD .Eq st (.str "put") (.str "not") = some false := by kernel_rfl
      have c2 : cmpD .In st (.str "put") (.tup [.str "and", .str "or", .str "xor"]) = some false := by kernel_rfl
      have c3 : cmpD .Eq st (.str "put") (.str "if") = some false := by kernel_rfl
      have c4 : cmpD .Eq st (.str "put") (.str "put") = some true := by kernel_rfl
      have w := whole_ok (k := k + 2) (st := st) hm
      have i0 : ixD st (.lst [intD A, intD B]) (.int (-1)) = some (.int B) := rfl
      have i00 : ixD st (.lst [intD A, intD B]) (.int 0) = some (intD A) := rfl
      have i1 : ixD st (Fm.put s a b).d (.int 1) = some (.str s) := rfl
      have ix := idx_ok (st := st) (hok s hsn) hok hsn
      have ty : mtTy .index (.lst (names.map D.str)) st = true := rfl
      have sd : cfN tab (k + 3) F_sides_of [.int B, .int (names.idxOf s), .int names.length] st = some (.tup [intD (hiT names s B), intD (loT names s B)], st) := sides_ok (k := k + 1) (st := st) (idx_lt hsn) hm tb.1
      have x : binD .BitXor (.int ((2 ^ 2 ^ names.length - 1 : Nat) : Int)) (intD A) = some (intD ((2 ^ 2 ^ names.length - 1) ^^^ A)) := d_xor
      simp only [ir_truths_of, List.drop_succ_cons, List.drop_zero, x_var, x_con, x_glob, x_tup, x_lst, x_bin, x_neg, x_inv, x_cmp, x_not, x_ite, x_ix, x_sl, x_call, x_bi, x_Es0, x_Es1, x_O0, x_O1, x_C0, x_asg, x_par2, x_aug, x_if, x_ret, x_ex, x_never, x_Ss0, x_Ss1, R.bind_some, List.getElem?_cons_zero, List.getElem?_cons_succ, List.set_cons_zero, List.set_cons_succ, Option.map_some, List.map_cons, List.map_nil, List.replicate, List.cons_append, List.nil_append, List.append_nil, Nat.sub_self, asg_nm, asg_tup, asgs_nil, asgs_cons, List.length_cons, List.length_nil, rd'_int, rd'_str, rd'_tup, rd_lst', rd_bl, rd_non, rd_scr, t_bl, t_int, t_non, Nat.reduceAdd, Nat.reduceLT, reduceIte, and_self, List.isEmpty_cons] at c ⊢
      simp only [c, x_var, x_con, x_glob, x_tup, x_lst, x_bin, x_neg, x_inv, x_cmp, x_not, x_ite, x_ix, x_sl, x_call, x_bi, x_Es0, x_Es1, x_O0, x_O1, x_C0, x_asg, x_par2, x_aug, x_if, x_ret, x_ex, x_never, x_Ss0, x_Ss1, R.bind_some, List.getElem?_cons_zero, List.getElem?_cons_succ, List.set_cons_zero, List.set_cons_succ, Option.map_some, List.map_cons, List.map_nil, List.replicate, List.cons_append, List.nil_append, List.append_nil, Nat.sub_self, asg_nm, asg_tup, asgs_nil, asgs_cons, List.length_cons, List.length_nil, rd'_int, rd'_str, rd'_tup, rd_lst', rd_bl, rd_non, rd_scr, t_bl, t_int, t_non, Nat.reduceAdd, Nat.reduceLT, reduceIte, and_self, Fm.word, c1, c2, c3, i0, i1, x_mt, nmD, ty, ix, sd, c4, w, i00, rd_intD, x, d_andI, d_orI]
end Kw

set_option Elab.async false
set_option linter.all false
set_option maxRecDepth 100000
set_option maxHeartbeats 2000000
/-! Law k03: sorting. -/
namespace Kw
open PySem

def leD (a b : D) : Bool := !W.dataLt b.py a.py
theorem leD_total (a b : D) : (leD a b || leD b a) = true := by
  unfold leD W.dataLt
  cases h : PyProof.Rows.lexLt PyProof.Rows.itemOrd (W.keyToks b.py) (W.keyToks a.py) with
  | false => rfl
  | true =>
    cases h2 : PyProof.Rows.lexLt PyProof.Rows.itemOrd (W.keyToks a.py) (W.keyToks b.py) with
    | false => rfl
    | true =>
      have q := PyProof.Rows.lex_trans _ _ _ h h2
      rw [PyProof.Rows.lex_irrefl] at q
      cases q
theorem leD_trans (a b c : D) (h1 : leD a b = true) (h2 : leD b c = true) : leD a c = true := by
  unfold leD W.dataLt at h1 h2 ⊢
  rw [Bool.not_eq_true'] at h1 h2 ⊢
  cases h : PyProof.Rows.lexLt PyProof.Rows.itemOrd (W.keyToks c.py) (W.keyToks a.py) with
  | false => rfl
  | true =>
    rcases PyProof.Rows.lex_negTrans _ (W.keyToks b.py) _ h with q | q
    · rw [h2] at q; cases q
    · rw [h1] at q; cases q
theorem leD_anti {a b : D} (h1 : leD a b = true) (h2 : leD b a = true) : W.keyToks a.py = W.keyToks b.py := by
  unfold leD W.dataLt at h1 h2
  rw [Bool.not_eq_true'] at h1 h2
  exact PyProof.Rows.lex_total _ _ h2 h1
theorem toks_strs : ∀ {xs ys : List Str} {l m : List (Int ⊕ List Nat)}, W.keyToksAll (D.pys (xs.map D.str)) ++ l = W.keyToksAll (D.pys (ys.map D.str)) ++ m → xs = ys
  | [], [], _, _, _ => rfl
  | [], y :: ys, _, _, h => by
    simp only [List.map_nil, List.map_cons, D.pys, D.py, W.keyToksAll, W.keyToks, List.cons_append, List.nil_append, List.cons.injEq, Sum.inl.injEq] at h
    exact absurd h.1 (by decide)
  | x :: xs, [], _, _, h => by
    simp only [List.map_nil, List.map_cons, D.pys, D.py, W.keyToksAll, W.keyToks, List.cons_append, List.nil_append, List.cons.injEq, Sum.inl.injEq] at h
    exact absurd h.1 (by decide)
  | x :: xs, y :: ys, l, m, h => by
    simp only [List.map_cons, D.pys, D.py, W.keyToksAll, W.keyToks, List.cons_append, List.nil_append, List.cons.injEq, true_and, Sum.inr.injEq] at h
    rw [W.str_of_cps h.1, toks_strs h.2]
/-- one text, one row under its length -/
theorem anti_str {a b : Str} (h1 : leD (.str a) (.str b) = true) (h2 : leD (.str b) (.str a) = true) : a = b := by
  have q := leD_anti h1 h2
  simp only [D.py, W.keyToks, List.cons.injEq, Sum.inr.injEq, and_true] at q
  exact W.str_of_cps q
def rowD (r : List Str) : D := .tup (r.map D.str)
def keyR (r : List Str) : D := .tup [.int r.length, rowD r]
theorem anti_row {a b : List Str} (h1 : leD (keyR a) (keyR b) = true) (h2 : leD (keyR b) (keyR a) = true) : a = b := by
  have q := leD_anti h1 h2
  simp only [keyR, rowD, D.py, D.pys, W.keyToks, W.keyToksAll, List.cons_append, List.nil_append, List.cons.injEq, true_and, Sum.inl.injEq] at q
  exact toks_strs q.2
/-! ### what sorted takes -/
theorem alike_strs {xs ys : List Str} : W.alikeAll (D.pys (xs.map D.str)) (D.pys (ys.map D.str)) = true := by
  induction xs generalizing ys with
  | nil => simp [D.pys, W.alikeAll]
  | cons x xs ih =>
    cases ys with
    | nil => simp [D.pys, W.alikeAll]
    | cons y ys =>
      simp only [List.map_cons, D.pys, D.py, W.alikeAll, W.alike, Bool.true_and]
      exact ih
theorem sort_strs {ss : List Str} (h : ∀ s ∈ ss, okS s) (hl : ss.length ≤ LIM) : sortD (ss.map D.str) = some ((ss.map D.str).mergeSort leD) := by
  unfold sortD
  refine if_pos ?_
  simp only [Bool.and_eq_true, decide_eq_true_eq, List.length_map]
  refine ⟨⟨⟨⟨(pls_strs h).cleans, ?_⟩, ?_⟩, ?_⟩, hl⟩
  · unfold allAlike
    rw [List.all_eq_true]
    intro d hd
    rw [List.all_eq_true]
    intro e he
    obtain ⟨a, _, rfl⟩ := List.mem_map.mp hd
    obtain ⟨b, _, rfl⟩ := List.mem_map.mp he
    simp only [D.py, W.alike]
  · unfold sortOk
    rw [Bool.or_eq_true]
    refine .inr ?_
    rw [List.all_eq_true]
    intro d hd
    obtain ⟨a, _, rfl⟩ := List.mem_map.mp hd
    rfl
  · rw [List.all_eq_true]
    intro d hd
    exact ((pls_strs h).mem d hd).eqOk (by omega)
theorem pl_row {r : List Str} (h : ∀ s ∈ r, okS s) : Pl 1 (rowD r) := .tup (pls_strs h)
theorem pl_key {r : List Str} (h : ∀ s ∈ r, okS s) : Pl 2 (keyR r) := .tup (.cons (.int 1 _) (.cons (pl_row h) (.nil 1)))
theorem sort_rows {rs : List (List Str)} (h : ∀ r ∈ rs, ∀ s ∈ r, okS s) (hl : rs.length ≤ LIM) : sortD (rs.map keyR) = some ((rs.map keyR).mergeSort leD) := by
  have hp : Pls 2 (rs.map keyR) := .of fun d hd => by
    obtain ⟨r, hr, rfl⟩ := List.mem_map.mp hd
    exact pl_key (h r hr)
  unfold sortD
  refine if_pos ?_
  simp only [Bool.and_eq_true, decide_eq_true_eq, List.length_map]
  refine ⟨⟨⟨⟨hp.cleans, ?_⟩, ?_⟩, ?_⟩, hl⟩
  · unfold allAlike
    rw [List.all_eq_true]
    intro d hd
    rw [List.all_eq_true]
    intro e he
    obtain ⟨a, _, rfl⟩ := List.mem_map.mp hd
    obtain ⟨b, _, rfl⟩ := List.mem_map.mp he
    simp only [keyR, rowD, D.py, D.pys, W.alike, W.alikeAll, alike_strs, Bool.and_self]
  · unfold sortOk
    rw [Bool.or_eq_true]
    refine .inl ?_
    rw [List.all_eq_true]
    intro d hd
    obtain ⟨a, _, rfl⟩ := List.mem_map.mp hd
    rfl
  · rw [List.all_eq_true]
    intro d hd
    exact (hp.mem d hd).eqOk (by omega)
/-! ### sorted lists -/
def srt (ss : List Str) : List Str := ss.mergeSort fun a b => leD (.str a) (.str b)
def srtR (rs : List (List Str)) : List (List Str) := rs.mergeSort fun a b => leD (keyR a) (keyR b)
theorem srt_map (ss : List Str) : (ss.map D.str).mergeSort leD = (srt ss).map D.str := (List.map_mergeSort (r := fun a b => leD (.str a) (.str b)) fun _ _ _ _ => rfl).symm
theorem srtR_map (rs : List (List Str)) : (rs.map keyR).mergeSort leD = (srtR rs).map keyR := (List.map_mergeSort (r := fun a b => leD (keyR a) (keyR b)) fun _ _ _ _ => rfl).symm
theorem srt_perm (ss : List Str) : (srt ss).Perm ss := List.mergeSort_perm _ _
theorem srtR_perm (rs : List (List Str)) : (srtR rs).Perm rs := List.mergeSort_perm _ _
theorem srt_pw (ss : List Str) : (srt ss).Pairwise fun a b => leD (.str a) (.str b) = true := List.pairwise_mergeSort (le := fun a b => leD (.str a) (.str b)) (fun a b c => leD_trans _ _ _) (fun a b => leD_total _ _) ss
theorem srtR_pw (rs : List (List Str)) : (srtR rs).Pairwise fun a b => leD (keyR a) (keyR b) = true := List.pairwise_mergeSort (le := fun a b => leD (keyR a) (keyR b)) (fun a b c => leD_trans _ _ _) (fun a b => leD_total _ _) rs
theorem srt_uniq {a b : List Str} (ha : a.Pairwise fun a b => leD (.str a) (.str b) = true) (hb : b.Pairwise fun a b => leD (.str a) (.str b) = true) (h : a.Perm b) : a = b := h.eq_of_pairwise (fun _ _ _ _ => anti_str) ha hb
theorem srtR_uniq {a b : List (List Str)} (ha : a.Pairwise fun a b => leD (keyR a) (keyR b) = true) (hb : b.Pairwise fun a b => leD (keyR a) (keyR b) = true) (h : a.Perm b) : a = b := h.eq_of_pairwise (fun _ _ _ _ => anti_row) ha hb
theorem srt_filter (p : Str → Bool) (ss : List Str) : srt (ss.filter p) = (srt ss).filter p := srt_uniq (srt_pw _) ((srt_pw _).filter p) ((srt_perm _).trans ((srt_perm ss).filter p).symm)
theorem srtR_filter (p : List Str → Bool) (rs : List (List Str)) : srtR (rs.filter p) = (srtR rs).filter p := srtR_uniq (srtR_pw _) ((srtR_pw _).filter p) ((srtR_perm _).trans ((srtR_perm rs).filter p).symm)
theorem srtR_of_perm {a b : List (List Str)} (h : a.Perm b) : srtR a = srtR b := srtR_uniq (srtR_pw _) (srtR_pw _) ((srtR_perm a).trans (h.trans (srtR_perm b).symm))
theorem srt_nodup {ss : List Str} (h : ss.Nodup) : (srt ss).Nodup := (srt_perm ss).nodup_iff.mpr h
theorem srt_mem {ss : List Str} {x : Str} : x ∈ srt ss ↔ x ∈ ss := (srt_perm ss).mem_iff
theorem srtR_mem {ss : List (List Str)} {x : List Str} : x ∈ srtR ss ↔ x ∈ ss := (srtR_perm ss).mem_iff
theorem srt_len (ss : List Str) : (srt ss).length = ss.length := (srt_perm ss).length_eq
theorem srtR_len (ss : List (List Str)) : (srtR ss).length = ss.length := (srtR_perm ss).length_eq
end Kw

set_option Elab.async false
set_option linter.all false
set_option maxRecDepth 100000
set_option maxHeartbeats 2000000
/-! Law k03: rows. -/
namespace Kw
open PySem

def selK : Nat → List Str → Nat → List Str
  | _, [], _ => []
  | k, x :: xs, n => if n.testBit k then x :: selK (k + 1) xs n else selK (k + 1) xs n
theorem selK_eq : ∀ {xs : List Str} (k n : Nat), xs.Nodup → selK k xs n = xs.filter fun x => n.testBit (k + xs.idxOf x)
  | [], k, n, _ => rfl
  | x :: xs, k, n, h => by
    obtain ⟨h1, h2⟩ := List.nodup_cons.mp h
    have e : (x :: xs).idxOf x = 0 := by rw [List.idxOf_cons]; simp
    have t : selK (k + 1) xs n = xs.filter fun y => n.testBit (k + (x :: xs).idxOf y) := by
      rw [selK_eq (k + 1) n h2]
      refine List.filter_congr fun y hy => ?_
      have hne : (x == y) = false := by
        rw [beq_eq_false_iff_ne]
        rintro rfl
        exact h1 hy
      rw [List.idxOf_cons, hne]
      show n.testBit (k + 1 + xs.idxOf y) = n.testBit (k + (xs.idxOf y + 1))
      congr 1
      omega
    rw [selK, List.filter_cons, e, t]
    rfl
def rowAt (names : List Str) (n : Nat) : List Str := srt (selK 0 names n)
section
variable {names : List Str}
theorem rowAt_eq (h : names.Nodup) (n : Nat) : rowAt names n = (srt names).filter fun x => n.testBit (names.idxOf x) := by
  unfold rowAt
  rw [selK_eq 0 n h, srt_filter]
  simp
theorem rowAt_mem (h : names.Nodup) {n : Nat} (hn : n < 2 ^ names.length) (x : Str) : x ∈ rowAt names n ↔ n.testBit (names.idxOf x) = true := by
  rw [rowAt_eq h, List.mem_filter, srt_mem]
  constructor
  · exact fun z => z.2
  · intro z
    refine ⟨?_, z⟩
    by_cases q : x ∈ names
    · exact q
    · rw [idx_out q, bit_out hn] at z
      cases z
theorem bits_ex : ∀ (m : Nat) (b : Nat → Bool), ∃ n, n < 2 ^ m ∧ ∀ i, i < m → n.testBit i = b i
  | 0, b => ⟨0, by decide, fun i hi => absurd hi (Nat.not_lt_zero _)⟩
  | m + 1, b => by
    obtain ⟨n, hn, h⟩ := bits_ex m b
    have hp : 2 ^ (m + 1) = 2 ^ m + 2 ^ m := by rw [Nat.pow_succ]; omega
    cases q : b m with
    | false =>
      refine ⟨n, by omega, fun i hi => ?_⟩
      by_cases e : i = m
      · subst e
        rw [bit_out hn, q]
      · exact h i (by omega)
    | true =>
      refine ⟨2 ^ m + n, by omega, fun i hi => ?_⟩
      by_cases e : i = m
      · subst e
        rw [Nat.testBit_two_pow_add_eq, bit_out hn, q]
        rfl
      · rw [Nat.testBit_two_pow_add_gt (by omega)]
        exact h i (by omega)
theorem sub_filter {r S : List Str} (h : r.Sublist S) (hn : S.Nodup) : r = S.filter fun x => decide (x ∈ r) := by
  induction h with
  | slnil => rfl
  | @cons l1 l2 a _ ih =>
    obtain ⟨h1, h2⟩ := List.nodup_cons.mp hn
    rename_i hs
    rw [List.filter_cons, if_neg (by
      rw [decide_eq_true_eq]
      exact fun z => h1 (hs.subset z))]
    exact ih h2
  | @cons_cons l1 l2 a hs ih =>
    obtain ⟨h1, h2⟩ := List.nodup_cons.mp hn
    rw [List.filter_cons, if_pos (by simp)]
    refine congrArg (a :: ·) ((ih h2).trans (List.filter_congr fun x hx => ?_))
    have hne : x ≠ a := fun z => h1 (z ▸ hx)
    simp [hne]
theorem rowAt_sub (h : names.Nodup) (r : List Str) : r ∈ (List.range (2 ^ names.length)).map (rowAt names) ↔ r.Sublist (srt names) := by
  rw [List.mem_map]
  constructor
  · rintro ⟨n, _, rfl⟩
    rw [rowAt_eq h]
    exact List.filter_sublist
  · intro hr
    obtain ⟨n, hn, hb⟩ := bits_ex names.length fun i => match names[i]? with
      | some x => decide (x ∈ r)
      | none => false
    refine ⟨n, List.mem_range.mpr hn, ?_⟩
    rw [rowAt_eq h, sub_filter hr (srt_nodup h)]
    refine List.filter_congr fun x hx => ?_
    have hm : x ∈ names := srt_mem.mp hx
    rw [hb _ (idx_lt hm), List.getElem?_eq_getElem (idx_lt hm), List.getElem_idxOf (idx_lt hm)]
theorem rowAt_nodup (h : names.Nodup) : ((List.range (2 ^ names.length)).map (rowAt names)).Nodup := by
  rw [List.nodup_iff_pairwise_ne, List.pairwise_map]
  refine List.Pairwise.imp_of_mem (R := (· ≠ ·)) ?_ (List.nodup_iff_pairwise_ne.mp List.nodup_range)
  intro a b ha hb hne e
  have ha' := List.mem_range.mp ha
  have hb' := List.mem_range.mp hb
  refine hne (Nat.eq_of_testBit_eq fun i => ?_)
  by_cases hi : i < names.length
  · have h1 := rowAt_mem h ha' names[i]
    have h2 := rowAt_mem h hb' names[i]
    rw [e, h2, h.idxOf_getElem i hi] at h1
    rw [Bool.eq_iff_iff]
    exact h1.symm
  · rw [Nat.testBit_lt_two_pow (Nat.lt_of_lt_of_le ha' (Nat.pow_le_pow_right (by decide) (by omega))), Nat.testBit_lt_two_pow (Nat.lt_of_lt_of_le hb' (Nat.pow_le_pow_right (by decide) (by omega)))]
end
/-! ### the rows of the law: all subsets, name by name -/
def subStep (rows : List (List Str)) (name : Str) : List (List Str) := rows ++ rows.map fun r => r ++ [name]
def subsL (S : List Str) : List (List Str) := S.foldl subStep [[]]
theorem subsL_snoc (S : List Str) (x : Str) : subsL (S ++ [x]) = subStep (subsL S) x := by
  unfold subsL
  rw [List.foldl_append]
  rfl
theorem snoc_ind {p : List Str → Prop} (h0 : p []) (h1 : ∀ l x, p l → p (l ++ [x])) : ∀ l, p l := by
  intro l
  have q : ∀ (n : Nat) (l : List Str), l.length = n → p l := by
    intro n
    induction n with
    | zero =>
      intro l hl
      rw [List.length_eq_zero_iff.mp hl]
      exact h0
    | succ n ih =>
      intro l hl
      have hne : l ≠ [] := fun z => by rw [z] at hl; cases hl
      rw [← List.dropLast_concat_getLast hne]
      exact h1 _ _ (ih _ (by rw [List.length_dropLast, hl]; rfl))
  exact q l.length l rfl
theorem subsL_mem (S : List Str) : ∀ r, r ∈ subsL S ↔ r.Sublist S := by
  refine snoc_ind (p := fun S => ∀ r, r ∈ subsL S ↔ r.Sublist S) ?_ ?_ S
  · intro r
    show r ∈ [[]] ↔ _
    rw [List.mem_singleton, List.sublist_nil]
  · intro S x ih r
    rw [subsL_snoc, subStep, List.mem_append, ih, List.mem_map, List.sublist_append_iff]
    constructor
    · rintro (h | ⟨r', h, rfl⟩)
      · exact ⟨r, [], by simp, h, by simp⟩
      · exact ⟨r', [x], rfl, (ih r').mp h, List.Sublist.refl _⟩
    · rintro ⟨r1, r2, rfl, h1, h2⟩
      match r2, h2 with
      | [], _ => exact .inl (by simpa using h1)
      | [y], h2 =>
        have : y = x := by simpa using h2.subset (List.mem_singleton.mpr rfl)
        subst this
        exact .inr ⟨r1, (ih r1).mpr h1, rfl⟩
      | _ :: _ :: _, h2 =>
        have := h2.length_le
        simp at this
theorem subsL_nodup (S : List Str) : S.Nodup → (subsL S).Nodup := by
  refine snoc_ind (p := fun S => S.Nodup → (subsL S).Nodup) ?_ ?_ S
  · intro _
    show ([[]] : List (List Str)).Nodup
    simp
  · intro S x ih hn
    rw [List.nodup_append] at hn
    obtain ⟨h1, _, h2⟩ := hn
    rw [subsL_snoc, subStep, List.nodup_append]
    refine ⟨ih h1, ?_, ?_⟩
    · rw [List.nodup_iff_pairwise_ne, List.pairwise_map]
      refine (List.nodup_iff_pairwise_ne.mp (ih h1)).imp fun {a b} hne e => hne ?_
      exact List.append_cancel_right e
    · intro a ha b hb e
      subst e
      obtain ⟨r, hr, rfl⟩ := List.mem_map.mp hb
      have hs := (subsL_mem S _).mp ha
      have hx : x ∈ S := hs.subset (by simp)
      exact h2 x hx x (by simp) rfl
theorem rows_perm {names : List Str} (h : names.Nodup) : ((List.range (2 ^ names.length)).map (rowAt names)).Perm (subsL (srt names)) :=
  (List.perm_ext_iff_of_nodup (rowAt_nodup h) (subsL_nodup _ (srt_nodup h))).mpr fun r => (rowAt_sub h r).trans (subsL_mem _ r).symm
def rowOk (f : Fm) (r : List Str) : Bool := f.ev fun x => decide (x ∈ r)
theorem bit_row {names : List Str} {f : Fm} {T n : Nat} (h : names.Nodup) (t : TrOk names f T) (hn : n < 2 ^ names.length) : rowOk f (rowAt names n) = T.testBit n := by
  rw [t.2 n hn]
  refine Fm.ev_congr f fun x _ => ?_
  rw [Bool.eq_iff_iff, decide_eq_true_eq]
  exact rowAt_mem h hn x
/-- the two answers are one list -/
theorem rows_same {names : List Str} {f : Fm} {T : Nat} (h : names.Nodup) (t : TrOk names f T) : srtR (((List.range (2 ^ names.length)).filter fun n => T.testBit n).map (rowAt names)) = (srtR (subsL (srt names))).filter (rowOk f) := by
  have e : ((List.range (2 ^ names.length)).filter fun n => T.testBit n).map (rowAt names) = ((List.range (2 ^ names.length)).map (rowAt names)).filter (rowOk f) := by
    rw [List.filter_map]
    refine congrArg (List.map (rowAt names)) (List.filter_congr fun n hn => ?_)
    exact (bit_row h t (List.mem_range.mp hn)).symm
  rw [e, srtR_filter, srtR_of_perm (rows_perm h)]
end Kw

set_option Elab.async false
set_option linter.all false
set_option maxRecDepth 100000
set_option maxHeartbeats 2000000
/-! Law k03: the rows, as they run. -/
namespace Kw
open PySem

theorem d_and1 {a : Nat} : binD .BitAnd (.int a) (.int 1) = some (.int ((a &&& 1 : Nat) : Int)) := d_and (b := 1)
theorem t_bit (n i : Nat) : D.truth (.int ((n >>> i &&& 1 : Nat) : Int)) = some (n.testBit i) := by
  rw [t_int]
  congr 1
  rw [Nat.testBit, Nat.and_comm]
  rw [Bool.eq_iff_iff, bne_iff_ne, bne_iff_ne]
  omega
def sndD : D → D
  | .tup [_, x] => x
  | d => d
def bitD (n : Nat) : D → Bool
  | .tup [.int i, _] => n.testBit i.toNat
  | .int i => n.testBit i.toNat
  | _ => false
theorem enum_sel : ∀ (names : List Str) (k n : Nat), ((enumD k (names.map D.str)).filter (bitD n)).map sndD = (selK k names n).map D.str
  | [], _, _ => rfl
  | x :: xs, k, n => by
    rw [List.map_cons, enumD, List.filter_cons, selK]
    have e : bitD n (.tup [.int (k : Int), .str x]) = n.testBit k := by
      show n.testBit (k : Int).toNat = _
      rw [Int.toNat_natCast]
    rw [e]
    cases n.testBit k with
    | true =>
      rw [if_pos rfl, if_pos rfl, List.map_cons, List.map_cons, enum_sel xs (k + 1) n]
      rfl
    | false =>
      rw [if_neg Bool.false_ne_true, if_neg Bool.false_ne_true, enum_sel xs (k + 1) n]
theorem mem_enum : ∀ {names : List Str} {k : Nat} {d : D}, d ∈ enumD k (names.map D.str) → ∃ i s, d = .tup [.int ((i : Nat) : Int), .str s] ∧ s ∈ names
  | [], _, _, h => by cases h
  | x :: xs, k, d, h => by
    rw [List.map_cons, enumD] at h
    rcases List.mem_cons.mp h with rfl | h
    · exact ⟨k, x, rfl, List.mem_cons_self⟩
    · obtain ⟨i, s, h1, h2⟩ := mem_enum h
      exact ⟨i, s, h1, List.mem_cons_of_mem _ h2⟩
theorem selK_sub : ∀ (names : List Str) (k n : Nat), ∀ x ∈ selK k names n, x ∈ names
  | [], _, _, x, h => by cases h
  | y :: ys, k, n, x, h => by
    rw [selK] at h
    split at h
    · rcases List.mem_cons.mp h with rfl | h
      · exact List.mem_cons_self
      · exact List.mem_cons_of_mem _ (selK_sub ys (k + 1) n x h)
    · exact List.mem_cons_of_mem _ (selK_sub ys (k + 1) n x h)
theorem selK_len : ∀ (names : List Str) (k n : Nat), (selK k names n).length ≤ names.length
  | [], _, _ => Nat.le_refl _
  | y :: ys, k, n => by
    have := selK_len ys (k + 1) n
    rw [selK]
    split
    · simp; omega
    · simp; omega
theorem lim10 {n : Nat} (h : n ≤ 100000) : n ≤ LIM := Nat.le_trans h (by decide)
theorem enumD_len' (xs : List D) (k : Nat) : (enumD k xs).length = xs.length := by
  induction xs generalizing k with
  | nil => rfl
  | cons x xs ih => rw [enumD, List.length_cons, List.length_cons, ih]
section
variable {k : Nat} {st : Store} {names : List Str}
theorem row_at_ok (hm : names.length ≤ 10) (hok : ∀ x ∈ names, okS x) {n : Nat} : cfN tab (k + 1) F_row_at [.int n, nmD names] st = some (rowD (rowAt names n), st) := by
  refine run_rt rfl rfl ?_
  have hi : evI (cfN tab k) (.enum (.var 1)) [some (.int n), some (nmD names), none, none] st = some (enumD 0 (names.map D.str), st) := by
    rw [x_enum]
    simp only [x_var, x_con, x_glob, x_tup, x_lst, x_bin, x_neg, x_inv, x_cmp, x_not, x_ite, x_ix, x_sl, x_call, x_bi, x_Es0, x_Es1, x_O0, x_O1, x_C0, x_asg, x_par2, x_aug, x_if, x_ret, x_ex, x_never, x_Ss0, x_Ss1, R.bind_some, List.getElem?_cons_zero, List.getElem?_cons_succ, List.set_cons_zero, List.set_cons_succ, Option.map_some, List.map_cons, List.map_nil, List.replicate, List.cons_append, List.nil_append, List.append_nil, Nat.sub_self, asg_nm, asg_tup, asgs_nil, asgs_cons, List.length_cons, List.length_nil, rd'_int, rd'_str, rd'_tup, rd_lst', rd_bl, rd_non, rd_scr, t_bl, t_int, t_non, Nat.reduceAdd, Nat.reduceLT, reduceIte, and_self, nmD]
  have hl : evE (cfN tab k) (.lc false (.var 3) (.tup [2, 3]) (.enum (.var 1)) (some (.bin .BitAnd (.bin .RShift (.var 0) (.var 2)) (.con (.int 1)))) [2, 3]) [some (.int n), some (nmD names), none, none] st = some (.lst ((selK 0 names n).map D.str), st) := by
    rw [← enum_sel]
    refine x_lcf hi (lim10 (by rw [enumD_len', List.length_map]; omega)) fun d hd => ?_
    obtain ⟨i, s, rfl, _⟩ := mem_enum hd
    refine ⟨[some (.int n), some (nmD names), some (.int i), some (.str s)], .int ((n >>> i &&& 1 : Nat) : Int), rfl, by simp only [x_var, x_con, x_glob, x_tup, x_lst, x_bin, x_neg, x_inv, x_cmp, x_not, x_ite, x_ix, x_sl, x_call, x_bi, x_Es0, x_Es1, x_O0, x_O1, x_C0, x_asg, x_par2, x_aug, x_if, x_ret, x_ex, x_never, x_Ss0, x_Ss1, R.bind_some, List.getElem?_cons_zero, List.getElem?_cons_succ, List.set_cons_zero, List.set_cons_succ, Option.map_some, List.map_cons, List.map_nil, List.replicate, List.cons_append, List.nil_append, List.append_nil, Nat.sub_self, asg_nm, asg_tup, asgs_nil, asgs_cons, List.length_cons, List.length_nil, rd'_int, rd'_str, rd'_tup, rd_lst', rd_bl, rd_non, rd_scr, t_bl, t_int, t_non, Nat.reduceAdd, Nat.reduceLT, reduceIte, and_self, d_shr, d_and1], ?_, fun _ => by simp only [x_var, x_con, x_glob, x_tup, x_lst, x_bin, x_neg, x_inv, x_cmp, x_not, x_ite, x_ix, x_sl, x_call, x_bi, x_Es0, x_Es1, x_O0, x_O1, x_C0, x_asg, x_par2, x_aug, x_if, x_ret, x_ex, x_never, x_Ss0, x_Ss1, R.bind_some, List.getElem?_cons_zero, List.getElem?_cons_succ, List.set_cons_zero, List.set_cons_succ, Option.map_some, List.map_cons, List.map_nil, List.replicate, List.cons_append, List.nil_append, List.append_nil, Nat.sub_self, asg_nm, asg_tup, asgs_nil, asgs_cons, List.length_cons, List.length_nil, rd'_int, rd'_str, rd'_tup, rd_lst', rd_bl, rd_non, rd_scr, t_bl, t_int, t_non, Nat.reduceAdd, Nat.reduceLT, reduceIte, and_self, sndD]⟩
    rw [t_bit]
    show _ = some (n.testBit (i : Int).toNat)
    rw [Int.toNat_natCast]
  have hs := sort_strs (ss := selK 0 names n) (fun s h => hok s (selK_sub _ _ _ s h)) (lim10 (by have := selK_len names 0 n; omega))
  rw [srt_map] at hs
  simp only [ir_row_at, x_var, x_con, x_glob, x_tup, x_lst, x_bin, x_neg, x_inv, x_cmp, x_not, x_ite, x_ix, x_sl, x_call, x_bi, x_Es0, x_Es1, x_O0, x_O1, x_C0, x_asg, x_par2, x_aug, x_if, x_ret, x_ex, x_never, x_Ss0, x_Ss1, R.bind_some, List.getElem?_cons_zero, List.getElem?_cons_succ, List.set_cons_zero, List.set_cons_succ, Option.map_some, List.map_cons, List.map_nil, List.replicate, List.cons_append, List.nil_append, List.append_nil, Nat.sub_self, asg_nm, asg_tup, asgs_nil, asgs_cons, List.length_cons, List.length_nil, rd'_int, rd'_str, rd'_tup, rd_lst', rd_bl, rd_non, rd_scr, t_bl, t_int, t_non, Nat.reduceAdd, Nat.reduceLT, reduceIte, and_self, hl, biD, hs]
  rfl
theorem len_row {r : List Str} : biD .len [rowD r] st = some (.int r.length, st) := by
  show some (D.int ((r.map D.str).length : Nat), st) = _
  rw [List.length_map]
/-- (len(row), row) for the rows, sorted, and the rows again -/
theorem keyed_ok {cf : CF} {rs : List (List Str)} {env : Env} {i a b : Nat} (he : env[i]? = some (some (.lst (rs.map rowD)))) (hi : i ≠ a) (ha : a < env.length) (hok : ∀ r ∈ rs, ∀ s ∈ r, okS s) (hl : rs.length ≤ LIM) :
    evE cf (.bi .sorted [(.lc false (.tup [(.bi .len [(.var a)]), (.var a)]) (.nm a) (.seq (.var i)) none [a])]) env st = some (.lst ((srtR rs).map keyR), st) := by
  have hs : evI cf (.seq (.var i)) env st = some (rs.map rowD, st) := by
    rw [x_seq, x_var, he]
    rfl
  have h1 : evE cf (.lc false (.tup [(.bi .len [(.var a)]), (.var a)]) (.nm a) (.seq (.var i)) none [a]) env st = some (.lst (rs.map keyR), st) := by
    rw [x_lcp (h := fun d => .tup [valOf (biD .len [d] st), d]) hs (by rw [List.length_map]; exact hl) (fun d hd => ?_), List.map_map]
    · refine congrArg (fun l => some (D.lst l, st)) (List.map_congr_left fun r _ => ?_)
      show D.tup [valOf (biD .len [rowD r] st), rowD r] = keyR r
      rw [valOf_eq len_row]
      rfl
    · obtain ⟨r, _, rfl⟩ := List.mem_map.mp hd
      have hla : a < (wipeD env [a]).length := by
        show a < (env.set a none).length
        rw [List.length_set]
        exact ha
      refine ⟨(wipeD env [a]).set a (some (rowD r)), if_pos hla, ?_⟩
      have q : ((wipeD env [a]).set a (some (rowD r)))[a]? = some (some (rowD r)) := List.getElem?_set_self hla
      simp only [x_tup, x_Es1, x_Es0, x_bi, x_var, q, R.bind_some, len_row, valOf]
  simp only [x_bi, x_Es1, x_Es0, h1, R.bind_some, biD, sort_rows hok hl, srtR_map, Option.map_some]
theorem unkey_ok {cf : CF} {rs : List (List Str)} {env : Env} {i a b : Nat} (he : env[i]? = some (some (.lst (rs.map keyR)))) (hab : a ≠ b) (ha : a < env.length) (hb : b < env.length) (hl : rs.length ≤ LIM) {own : List Nat} :
    evE cf (.lc false (.var b) (.tup [a, b]) (.seq (.var i)) none own) env st = some (.lst (rs.map rowD), st) := by
  have hs : evI cf (.seq (.var i)) env st = some (rs.map keyR, st) := by
    rw [x_seq, x_var, he]
    rfl
  have wl : ∀ (vs : List Nat), (wipeD env vs).length = env.length := by
    intro vs
    induction vs with
    | nil => rfl
    | cons v vs ih => rw [wipeD, List.length_set, ih]
  rw [x_lcp (h := sndD) hs (by rw [List.length_map]; exact hl) (fun d hd => ?_), List.map_map]
  · rfl
  · obtain ⟨r, _, rfl⟩ := List.mem_map.mp hd
    refine ⟨((wipeD env own).set a (some (.int r.length))).set b (some (rowD r)), ?_, ?_⟩
    · show asgNs [a, b] [.int r.length, rowD r] (wipeD env own) = _
      rw [asgs_cons, if_pos (by rw [wl]; exact ha), asgs_cons, if_pos (by rw [List.length_set, wl]; exact hb), asgs_nil]
    · rw [x_var, List.getElem?_set_self (by rw [List.length_set, wl]; exact hb)]
      rfl
theorem rowAt_ok (hok : ∀ x ∈ names, okS x) {n : Nat} : ∀ s ∈ rowAt names n, okS s := fun s hs => hok s (selK_sub _ _ _ s (srt_mem.mp hs))
theorem rng_le {n : Nat} (h : n ≤ 2000) : rngOk (n : Int) = true := by
  unfold rngOk
  rw [Bool.and_eq_true, decide_eq_true_eq, decide_eq_true_eq]
  have e : (2 : Int) ^ 62 = 4611686018427387904 := by decide
  rw [e]
  constructor <;> omega
theorem two_len (hm : names.length ≤ 10) {T : Nat} : evE (cfN tab (k + 1)) (.bin .LShift (.con (.int 1)) (.bi .len [(.var 1)])) [some (.int T), some (nmD names), none, none, none, none, none] st = some (.int ((2 ^ names.length : Nat) : Int), st) := by
  have hlen : (names.map D.str).length = names.length := List.length_map _
  have e1 := d_pow (m := names.length) (by omega)
  simp only [x_var, x_con, x_glob, x_tup, x_lst, x_bin, x_neg, x_inv, x_cmp, x_not, x_ite, x_ix, x_sl, x_call, x_bi, x_Es0, x_Es1, x_O0, x_O1, x_C0, x_asg, x_par2, x_aug, x_if, x_ret, x_ex, x_never, x_Ss0, x_Ss1, R.bind_some, List.getElem?_cons_zero, List.getElem?_cons_succ, List.set_cons_zero, List.set_cons_succ, Option.map_some, List.map_cons, List.map_nil, List.replicate, List.cons_append, List.nil_append, List.append_nil, Nat.sub_self, asg_nm, asg_tup, asgs_nil, asgs_cons, List.length_cons, List.length_nil, rd'_int, rd'_str, rd'_tup, rd_lst', rd_bl, rd_non, rd_scr, t_bl, t_int, t_non, Nat.reduceAdd, Nat.reduceLT, reduceIte, and_self, nmD, bi_len, hlen, e1]
theorem rows_rng (hm : names.length ≤ 10) {T : Nat} : evI (cfN tab (k + 1)) (.rng (.bin .LShift (.con (.int 1)) (.bi .len [(.var 1)]))) [some (.int T), some (nmD names), none, none, none, none, none] st = some (rngD 0 ((2 ^ names.length : Nat) : Int), st) := by
  have h10 := pw10 hm
  have hr : rngOk ((2 ^ names.length : Nat) : Int) = true := rng_le (by omega)
  rw [x_rng, two_len hm, R.bind_some]
  exact if_pos hr
theorem rows_lc (hm : names.length ≤ 10) (hok : ∀ x ∈ names, okS x) {T : Nat} : evE (cfN tab (k + 1)) (.lc false (.call F_row_at [(.var 4), (.var 1)]) (.nm 4) (.rng (.bin .LShift (.con (.int 1)) (.bi .len [(.var 1)]))) (some (.bin .BitAnd (.bin .RShift (.var 0) (.var 4)) (.con (.int 1)))) [4]) [some (.int T), some (nmD names), none, none, none, none, none] st
      = some (.lst ((((List.range (2 ^ names.length)).filter fun n => T.testBit n).map (rowAt names)).map rowD), st) := by
  have h10 := pw10 hm
  have hi := rows_rng (k := k) (st := st) hm (T := T)
  have e : (((List.range (2 ^ names.length)).filter fun n => T.testBit n).map (rowAt names)).map rowD = ((rngD 0 ((2 ^ names.length : Nat) : Int)).filter (bitD T)).map fun d => match d with
      | .int i => rowD (rowAt names i.toNat)
      | d => d := by
    unfold rngD
    rw [Int.sub_zero, Int.toNat_natCast, List.filter_map, List.map_map, List.map_map]
    have hf : (bitD T ∘ fun (i : Nat) => D.int (0 + (i : Int))) = fun n => T.testBit n := by
      funext i
      show T.testBit (0 + (i : Int)).toNat = _
      rw [Int.zero_add, Int.toNat_natCast]
    rw [hf]
    refine List.map_congr_left fun i _ => ?_
    show rowD (rowAt names i) = rowD (rowAt names (0 + (i : Int)).toNat)
    rw [Int.zero_add, Int.toNat_natCast]
  rw [e]
  refine x_lcf hi (lim10 (by unfold rngD; rw [List.length_map, List.length_range]; omega)) fun d hd => ?_
  unfold rngD at hd
  obtain ⟨i, _, rfl⟩ := List.mem_map.mp hd
  rw [Int.zero_add]
  refine ⟨[some (.int T), some (nmD names), none, none, some (.int i), none, none], .int ((T >>> i &&& 1 : Nat) : Int), rfl, by simp only [x_var, x_con, x_glob, x_tup, x_lst, x_bin, x_neg, x_inv, x_cmp, x_not, x_ite, x_ix, x_sl, x_call, x_bi, x_Es0, x_Es1, x_O0, x_O1, x_C0, x_asg, x_par2, x_aug, x_if, x_ret, x_ex, x_never, x_Ss0, x_Ss1, R.bind_some, List.getElem?_cons_zero, List.getElem?_cons_succ, List.set_cons_zero, List.set_cons_succ, Option.map_some, List.map_cons, List.map_nil, List.replicate, List.cons_append, List.nil_append, List.append_nil, Nat.sub_self, asg_nm, asg_tup, asgs_nil, asgs_cons, List.length_cons, List.length_nil, rd'_int, rd'_str, rd'_tup, rd_lst', rd_bl, rd_non, rd_scr, t_bl, t_int, t_non, Nat.reduceAdd, Nat.reduceLT, reduceIte, and_self, d_shr, d_and1], ?_, fun _ => ?_⟩
  · rw [t_bit]
    show _ = some (T.testBit (i : Int).toNat)
    rw [Int.toNat_natCast]
  · have r := row_at_ok (k := k) (st := st) hm hok (n := i)
    simp only [x_var, x_con, x_glob, x_tup, x_lst, x_bin, x_neg, x_inv, x_cmp, x_not, x_ite, x_ix, x_sl, x_call, x_bi, x_Es0, x_Es1, x_O0, x_O1, x_C0, x_asg, x_par2, x_aug, x_if, x_ret, x_ex, x_never, x_Ss0, x_Ss1, R.bind_some, List.getElem?_cons_zero, List.getElem?_cons_succ, List.set_cons_zero, List.set_cons_succ, Option.map_some, List.map_cons, List.map_nil, List.replicate, List.cons_append, List.nil_append, List.append_nil, Nat.sub_self, asg_nm, asg_tup, asgs_nil, asgs_cons, List.length_cons, List.length_nil, rd'_int, rd'_str, rd'_tup, rd_lst', rd_bl, rd_non, rd_scr, t_bl, t_int, t_non, Nat.reduceAdd, Nat.reduceLT, reduceIte, and_self, r]
    rw [Int.toNat_natCast]
theorem rows_in_ok (hm : names.length ≤ 10) (hok : ∀ x ∈ names, okS x) {T : Nat} : cfN tab (k + 2) F_rows_in [.int T, nmD names] st = some (.lst ((srtR (((List.range (2 ^ names.length)).filter fun n => T.testBit n).map (rowAt names))).map rowD), st) := by
  refine run_rt rfl rfl ?_
  have h10 := pw10 hm
  have hl := rows_lc (k := k) (st := st) hm hok (T := T)
  have hlim : (((List.range (2 ^ names.length)).filter fun n => T.testBit n).map (rowAt names)).length ≤ LIM := lim10 (by
    rw [List.length_map]
    refine Nat.le_trans (List.length_filter_le _ _) ?_
    rw [List.length_range]
    omega)
  have hok2 : ∀ r ∈ ((List.range (2 ^ names.length)).filter fun n => T.testBit n).map (rowAt names), ∀ s ∈ r, okS s := fun r hr => by
    obtain ⟨n, _, rfl⟩ := List.mem_map.mp hr
    exact rowAt_ok hok
  generalize ((List.range (2 ^ names.length)).filter fun n => T.testBit n).map (rowAt names) = rs at *
  have h2 := keyed_ok (cf := cfN tab (k + 1)) (st := st) (rs := rs) (env := [some (.int T), some (nmD names), some (.lst (rs.map rowD)), none, none, none, none]) (i := 2) (a := 5) (b := 5) rfl (by decide) (by simp) hok2 hlim
  have h3 := unkey_ok (cf := cfN tab (k + 1)) (st := st) (rs := srtR rs) (env := [some (.int T), some (nmD names), some (.lst (rs.map rowD)), some (.lst ((srtR rs).map keyR)), none, none, none]) (i := 3) (a := 6) (b := 5) (own := [5, 6]) rfl (by decide) (by simp) (by simp) (by rw [srtR_len]; exact hlim)
  simp only [ir_rows_in, x_var, x_con, x_glob, x_tup, x_lst, x_bin, x_neg, x_inv, x_cmp, x_not, x_ite, x_ix, x_sl, x_call, x_Es0, x_Es1, x_O0, x_O1, x_C0, x_asg, x_par2, x_aug, x_if, x_ret, x_ex, x_never, x_Ss0, x_Ss1, R.bind_some, List.getElem?_cons_zero, List.getElem?_cons_succ, List.set_cons_zero, List.set_cons_succ, Option.map_some, List.map_cons, List.map_nil, List.replicate, List.cons_append, List.nil_append, List.append_nil, Nat.sub_self, asg_nm, asg_tup, asgs_nil, asgs_cons, List.length_cons, List.length_nil, rd'_int, rd'_str, rd'_tup, rd_lst', rd_bl, rd_non, rd_scr, t_bl, t_int, t_non, Nat.reduceAdd, Nat.reduceLT, reduceIte, and_self, hl, h2, h3]
end
end Kw

set_option Elab.async false
set_option linter.all false
set_option maxRecDepth 100000
set_option maxHeartbeats 2000000
/-! Law k03: number_of, is_name, is_row, has_form. -/
namespace Kw
open PySem

/-! ### a row's number -/
def num (r : List Str) : List Str → Nat
  | [] => 0
  | x :: xs => (if x ∈ r then 1 else 0) + 2 * num r xs
theorem num_lt (r : List Str) : ∀ names : List Str, num r names < 2 ^ names.length
  | [] => by simp [num]
  | x :: xs => by
    have := num_lt r xs
    rw [num, List.length_cons, Nat.pow_succ]
    split <;> omega
theorem num_bit (r : List Str) : ∀ (names : List Str) (i : Nat) (x : Str), names[i]? = some x → (num r names).testBit i = decide (x ∈ r)
  | [], i, x, h => by simp at h
  | y :: ys, 0, x, h => by
    have e : y = x := by simpa using h
    subst e
    rw [num, Nat.testBit_zero]
    by_cases hy : y ∈ r
    · rw [if_pos hy]; simp [hy]
    · rw [if_neg hy]; simp [hy]
  | y :: ys, i + 1, x, h => by
    rw [num, Nat.testBit_succ, ← num_bit r ys i x (by simpa using h)]
    congr 1
    split <;> omega
def numL (r : List Str) : Nat → List Str → List Int
  | _, [] => []
  | k, x :: xs => if x ∈ r then ((2 ^ k : Nat) : Int) :: numL r (k + 1) xs else numL r (k + 1) xs
theorem numL_sum (r : List Str) : ∀ (k : Nat) (names : List Str), (numL r k names).sum = ((2 ^ k * num r names : Nat) : Int)
  | k, [] => by simp [numL, num]
  | k, x :: xs => by
    have ih := numL_sum r (k + 1) xs
    have e : 2 ^ (k + 1) * num r xs = 2 ^ k * (2 * num r xs) := by rw [Nat.pow_succ, Nat.mul_assoc]
    rw [numL, num, Nat.mul_add]
    split
    · rw [List.sum_cons, ih, e, Nat.mul_one]
      omega
    · rw [ih, e, Nat.mul_zero]
      omega
def memB (r : List Str) : D → Bool
  | .tup [_, .str s] => decide (s ∈ r)
  | _ => false
def powD : D → D
  | .tup [.int i, _] => .int ((2 ^ i.toNat : Nat) : Int)
  | d => d
theorem enum_num (r : List Str) : ∀ (names : List Str) (k : Nat), ((enumD k (names.map D.str)).filter (memB r)).map powD = (numL r k names).map D.int
  | [], _ => rfl
  | x :: xs, k => by
    rw [List.map_cons, enumD, List.filter_cons, numL]
    show List.map powD (if decide (x ∈ r) = true then _ else _) = _
    by_cases h : x ∈ r
    · rw [if_pos (decide_eq_true h), if_pos h, List.map_cons, List.map_cons, enum_num r xs (k + 1)]
      refine congrArg (· :: _) ?_
      show D.int ((2 ^ (k : Int).toNat : Nat) : Int) = _
      rw [Int.toNat_natCast]
    · rw [if_neg (by simpa using h), if_neg h, enum_num r xs (k + 1)]
theorem mem_enum2 : ∀ {names : List Str} {k : Nat} {d : D}, d ∈ enumD k (names.map D.str) → ∃ i s, d = .tup [.int ((i : Nat) : Int), .str s] ∧ s ∈ names ∧ i < k + names.length
  | [], _, _, h => by cases h
  | x :: xs, k, d, h => by
    rw [List.map_cons, enumD] at h
    rcases List.mem_cons.mp h with rfl | h
    · exact ⟨k, x, rfl, List.mem_cons_self, by simp⟩
    · obtain ⟨i, s, h1, h2, h3⟩ := mem_enum2 h
      exact ⟨i, s, h1, List.mem_cons_of_mem _ h2, by rw [List.length_cons]; omega⟩
theorem intsOf_map : ∀ l : List Int, intsOf (l.map D.int) = some l
  | [] => rfl
  | x :: xs => by rw [List.map_cons, intsOf, intsOf_map xs]; rfl
theorem boolsOf_map : ∀ l : List Bool, boolsOf (l.map D.bl) = some l
  | [] => rfl
  | x :: xs => by rw [List.map_cons, boolsOf, boolsOf_map xs]; rfl
section
variable {k : Nat} {st : Store} {names r : List Str}
theorem number_ok (hm : names.length ≤ 10) (hok : ∀ x ∈ names, okS x) (hr : ∀ x ∈ r, okS x) : cfN tab (k + 1) F_number_of [rowD r, nmD names] st = some (.int (num r names), st) := by
  refine run_rt rfl rfl ?_
  have hi : evI (cfN tab k) (.enum (.var 1)) [some (rowD r), some (nmD names), none, none] st = some (enumD 0 (names.map D.str), st) := by
    rw [x_enum]
    simp only [x_var, x_con, x_glob, x_tup, x_lst, x_bin, x_neg, x_inv, x_cmp, x_not, x_ite, x_ix, x_sl, x_call, x_bi, x_Es0, x_Es1, x_O0, x_O1, x_C0, x_asg, x_par2, x_aug, x_if, x_ret, x_ex, x_never, x_Ss0, x_Ss1, R.bind_some, List.getElem?_cons_zero, List.getElem?_cons_succ, List.set_cons_zero, List.set_cons_succ, Option.map_some, List.map_cons, List.map_nil, List.replicate, List.cons_append, List.nil_append, List.append_nil, Nat.sub_self, asg_nm, asg_tup, asgs_nil, asgs_cons, List.length_cons, List.length_nil, rd'_int, rd'_str, rd'_tup, rd_lst', rd_bl, rd_non, rd_scr, t_bl, t_int, t_non, Nat.reduceAdd, Nat.reduceLT, reduceIte, and_self, nmD]
  have hl : evE (cfN tab k) (.lc false (.bin .LShift (.con (.int 1)) (.var 2)) (.tup [2, 3]) (.enum (.var 1)) (some (.cmp .In (.var 3) (.var 0))) [2, 3]) [some (rowD r), some (nmD names), none, none] st = some (.lst ((numL r 0 names).map D.int), st) := by
    rw [← enum_num]
    refine x_lcf hi (lim10 (by rw [enumD_len', List.length_map]; omega)) fun d hd => ?_
    obtain ⟨i, s, rfl, hs, hlt⟩ := mem_enum2 hd
    have c := (in_strs (st := st) (hok s hs) hr).1
    have e := d_pow (m := i) (by omega)
    refine ⟨[some (rowD r), some (nmD names), some (.int i), some (.str s)], .bl (decide (s ∈ r)), rfl, by simp only [x_var, x_con, x_glob, x_tup, x_lst, x_bin, x_neg, x_inv, x_cmp, x_not, x_ite, x_ix, x_sl, x_call, x_bi, x_Es0, x_Es1, x_O0, x_O1, x_C0, x_asg, x_par2, x_aug, x_if, x_ret, x_ex, x_never, x_Ss0, x_Ss1, R.bind_some, List.getElem?_cons_zero, List.getElem?_cons_succ, List.set_cons_zero, List.set_cons_succ, Option.map_some, List.map_cons, List.map_nil, List.replicate, List.cons_append, List.nil_append, List.append_nil, Nat.sub_self, asg_nm, asg_tup, asgs_nil, asgs_cons, List.length_cons, List.length_nil, rd'_int, rd'_str, rd'_tup, rd_lst', rd_bl, rd_non, rd_scr, t_bl, t_int, t_non, Nat.reduceAdd, Nat.reduceLT, reduceIte, and_self, rowD, c], rfl, fun _ => ?_⟩
    simp only [x_var, x_con, x_glob, x_tup, x_lst, x_bin, x_neg, x_inv, x_cmp, x_not, x_ite, x_ix, x_sl, x_call, x_bi, x_Es0, x_Es1, x_O0, x_O1, x_C0, x_asg, x_par2, x_aug, x_if, x_ret, x_ex, x_never, x_Ss0, x_Ss1, R.bind_some, List.getElem?_cons_zero, List.getElem?_cons_succ, List.set_cons_zero, List.set_cons_succ, Option.map_some, List.map_cons, List.map_nil, List.replicate, List.cons_append, List.nil_append, List.append_nil, Nat.sub_self, asg_nm, asg_tup, asgs_nil, asgs_cons, List.length_cons, List.length_nil, rd'_int, rd'_str, rd'_tup, rd_lst', rd_bl, rd_non, rd_scr, t_bl, t_int, t_non, Nat.reduceAdd, Nat.reduceLT, reduceIte, and_self, e]
    show _ = some (D.int ((2 ^ (i : Int).toNat : Nat) : Int), st)
    rw [Int.toNat_natCast]
  have hs : biD .sum [.lst ((numL r 0 names).map D.int)] st = some (.int (num r names), st) := by
    show (intsOf _).map _ = _
    rw [intsOf_map, Option.map_some, numL_sum, Nat.pow_zero, Nat.one_mul]
  simp only [ir_number_of, x_var, x_con, x_glob, x_tup, x_lst, x_bin, x_neg, x_inv, x_cmp, x_not, x_ite, x_ix, x_sl, x_call, x_bi, x_Es0, x_Es1, x_O0, x_O1, x_C0, x_asg, x_par2, x_aug, x_if, x_ret, x_ex, x_never, x_Ss0, x_Ss1, R.bind_some, List.getElem?_cons_zero, List.getElem?_cons_succ, List.set_cons_zero, List.set_cons_succ, Option.map_some, List.map_cons, List.map_nil, List.replicate, List.cons_append, List.nil_append, List.append_nil, Nat.sub_self, asg_nm, asg_tup, asgs_nil, asgs_cons, List.length_cons, List.length_nil, rd'_int, rd'_str, rd'_tup, rd_lst', rd_bl, rd_non, rd_scr, t_bl, t_int, t_non, Nat.reduceAdd, Nat.reduceLT, reduceIte, and_self, hl, hs]
end
/-! ### names -/
def Nm (s : Str) : Prop := 1 ≤ s.length ∧ s.length ≤ 8 ∧ ∀ c ∈ s.cps.toList, 97 ≤ c ∧ c ≤ 122
theorem Nm.ok {s : Str} (h : Nm s) : okS s := by
  unfold okS PyData.strOk
  rw [Array.all_eq_true_iff_forall_mem]
  intro c hc
  have := h.2.2 c (by simpa using hc)
  rw [decide_eq_true_eq]
  omega
theorem letter_in : ∀ c, c < 123 → 97 ≤ c → inD (.str ⟨#[c]⟩) (.str "abcdefghijklmnopqrstuvwxyz") = some true := by decide +kernel
section
variable {k : Nat} {st : Store} {s : Str}
theorem all_true {α : Type} (l : List α) : biD .all [.lst (l.map fun _ => D.bl true)] st = some (.bl true, st) := by
  have e : l.map (fun _ => D.bl true) = (l.map fun _ => true).map D.bl := by rw [List.map_map]; rfl
  show (boolsOf _).map _ = _
  rw [e, boolsOf_map, Option.map_some]
  have : (l.map fun _ => true).all id = true := by rw [List.all_eq_true]; intro b hb; obtain ⟨_, _, rfl⟩ := List.mem_map.mp hb; rfl
  rw [this]
theorem is_name_ok (h : Nm s) : cfN tab (k + 1) F_is_name [.str s] st = some (.bl true, st) := by
  refine run_rt rfl rfl ?_
  obtain ⟨h1, h2, h3⟩ := h
  have e1 : biD .len [.str s] st = some (.int s.length, st) := if_pos (lim10 (by omega))
  have e2 : biD (.isinst "str") [.str s] st = some (.bl true, st) := rfl
  have c1 : cmpD .LtE st (.int 1) (.int s.length) = some true := by
    show some (!decide ((s.length : Int) < 1)) = _
    rw [decide_eq_false (by omega)]; rfl
  have c2 : cmpD .LtE st (.int s.length) (.int 8) = some true := by
    show some (!decide ((8 : Int) < s.length)) = _
    rw [decide_eq_false (by omega)]; rfl
  have hi : evI (cfN tab k) (.seq (.var 0)) [some (.str s), none] st = some (s.cps.toList.map fun c => D.str ⟨#[c]⟩, st) := by
    rw [x_seq]
    simp only [x_var, x_con, x_glob, x_tup, x_lst, x_bin, x_neg, x_inv, x_cmp, x_not, x_ite, x_ix, x_sl, x_call, x_bi, x_Es0, x_Es1, x_O0, x_O1, x_C0, x_asg, x_par2, x_aug, x_if, x_ret, x_ex, x_never, x_Ss0, x_Ss1, R.bind_some, List.getElem?_cons_zero, List.getElem?_cons_succ, List.set_cons_zero, List.set_cons_succ, Option.map_some, List.map_cons, List.map_nil, List.replicate, List.cons_append, List.nil_append, List.append_nil, Nat.sub_self, asg_nm, asg_tup, asgs_nil, asgs_cons, List.length_cons, List.length_nil, rd'_int, rd'_str, rd'_tup, rd_lst', rd_bl, rd_non, rd_scr, t_bl, t_int, t_non, Nat.reduceAdd, Nat.reduceLT, reduceIte, and_self]
    rfl
  have hl : evE (cfN tab k) (.lc false (.cmp .In (.var 1) (.glob "SMALL" (.str "abcdefghijklmnopqrstuvwxyz"))) (.nm 1) (.seq (.var 0)) none [1]) [some (.str s), none] st = some (.lst ((s.cps.toList.map fun c => D.str ⟨#[c]⟩).map fun _ => D.bl true), st) := by
    refine x_lcp hi (by
      rw [List.length_map]
      refine lim10 ?_
      have : s.cps.toList.length = s.length := by simp [Str.length]
      omega) fun d hd => ?_
    obtain ⟨c, hc, rfl⟩ := List.mem_map.mp hd
    have hc' := h3 c hc
    have q : cmpD .In st (.str ⟨#[c]⟩) (.str "abcdefghijklmnopqrstuvwxyz") = some true := letter_in c (by omega) hc'.1
    exact ⟨[some (.str s), some (.str ⟨#[c]⟩)], rfl, by simp only [x_var, x_con, x_glob, x_tup, x_lst, x_bin, x_neg, x_inv, x_cmp, x_not, x_ite, x_ix, x_sl, x_call, x_bi, x_Es0, x_Es1, x_O0, x_O1, x_C0, x_asg, x_par2, x_aug, x_if, x_ret, x_ex, x_never, x_Ss0, x_Ss1, R.bind_some, List.getElem?_cons_zero, List.getElem?_cons_succ, List.set_cons_zero, List.set_cons_succ, Option.map_some, List.map_cons, List.map_nil, List.replicate, List.cons_append, List.nil_append, List.append_nil, Nat.sub_self, asg_nm, asg_tup, asgs_nil, asgs_cons, List.length_cons, List.length_nil, rd'_int, rd'_str, rd'_tup, rd_lst', rd_bl, rd_non, rd_scr, t_bl, t_int, t_non, Nat.reduceAdd, Nat.reduceLT, reduceIte, and_self, q]⟩
  have ha := all_true (st := st) (s.cps.toList.map fun c => D.str ⟨#[c]⟩)
  simp only [ir_is_name, x_var, x_con, x_glob, x_tup, x_lst, x_bin, x_neg, x_inv, x_cmp, x_not, x_ite, x_ix, x_sl, x_call, x_Es0, x_Es1, x_O0, x_O1, x_C0, x_asg, x_par2, x_aug, x_if, x_ret, x_ex, x_never, x_Ss0, x_Ss1, R.bind_some, List.getElem?_cons_zero, List.getElem?_cons_succ, List.set_cons_zero, List.set_cons_succ, Option.map_some, List.map_cons, List.map_nil, List.replicate, List.cons_append, List.nil_append, List.append_nil, Nat.sub_self, asg_nm, asg_tup, asgs_nil, asgs_cons, List.length_cons, List.length_nil, rd'_int, rd'_str, rd'_tup, rd_lst', rd_bl, rd_non, rd_scr, t_bl, t_int, t_non, Nat.reduceAdd, Nat.reduceLT, reduceIte, and_self, x_or, evOr, x_cmp2, x_bi, e2, e1, c1, c2, Bool.not_true, hl, ha]
/-! ### rows -/
theorem lt_of_le {a b : Str} (h : leD (.str a) (.str b) = true) (hne : a ≠ b) : ltD (.str a) (.str b) = some true := by
  show some (decide (a.cps.toList < b.cps.toList)) = _
  have e : W.dataLt (D.str a).py (D.str b).py = decide (a.cps.toList < b.cps.toList) := W.dataLt_str a b
  cases q : decide (a.cps.toList < b.cps.toList) with
  | true => rfl
  | false =>
    rw [q] at e
    have h2 : leD (.str b) (.str a) = true := by unfold leD; rw [e]; rfl
    exact absurd (anti_str h h2) hne
theorem zip_strs : ∀ (xs ys : List Str), zipD (xs.map D.str) (ys.map D.str) = (xs.zip ys).map fun p => D.tup [.str p.1, .str p.2]
  | [], _ => by simp [zipD]
  | _ :: _, [] => by simp [zipD]
  | x :: xs, y :: ys => by simp [zipD, zip_strs xs ys]
theorem cut1 {α : Type} (xs : List α) : cutL xs (some 1) none = xs.drop 1 := by
  unfold cutL
  rw [show HT.sIx xs.length 0 (some 1) = min 1 xs.length from HT.sIx_nat xs.length 0 1, HT.sIx_none]
  cases xs with
  | nil => rfl
  | cons x r =>
    rw [show min 1 (x :: r).length = 1 by rw [List.length_cons]; omega]
    show List.take ((x :: r).length - 1) r = r
    rw [List.length_cons, Nat.add_sub_cancel, List.take_length]
theorem adj_lt : ∀ {r : List Str}, (r.Pairwise fun a b => leD (.str a) (.str b) = true) → r.Nodup → ∀ p ∈ r.zip (r.drop 1), ltD (.str p.1) (.str p.2) = some true
  | [], _, _, p, h => by cases h
  | [x], _, _, p, h => by cases h
  | x :: y :: r, hp, hn, p, h => by
    rw [List.drop_succ_cons, List.drop_zero, List.zip_cons_cons] at h
    obtain ⟨p1, p2⟩ := List.pairwise_cons.mp hp
    obtain ⟨n1, n2⟩ := List.nodup_cons.mp hn
    rcases List.mem_cons.mp h with rfl | h
    · exact lt_of_le (p1 y List.mem_cons_self) fun e => n1 (by rw [show x = y from e]; exact List.mem_cons_self)
    · exact adj_lt p2 n2 p (by rw [List.drop_succ_cons, List.drop_zero]; exact h)
theorem is_row_ok {r : List Str} (hnm : ∀ s ∈ r, Nm s) (hp : r.Pairwise fun a b => leD (.str a) (.str b) = true) (hn : r.Nodup) (hl : r.length ≤ 100) : cfN tab (k + 2) F_is_row [rowD r] st = some (.bl true, st) := by
  refine run_rt rfl rfl ?_
  have e2 : biD (.isinst "tuple") [rowD r] st = some (.bl true, st) := rfl
  have hi : evI (cfN tab (k + 1)) (.seq (.var 0)) [some (rowD r), none, none] st = some (r.map D.str, st) := by
    rw [x_seq]
    simp only [x_var, x_con, x_glob, x_tup, x_lst, x_bin, x_neg, x_inv, x_cmp, x_not, x_ite, x_ix, x_sl, x_call, x_bi, x_Es0, x_Es1, x_O0, x_O1, x_C0, x_asg, x_par2, x_aug, x_if, x_ret, x_ex, x_never, x_Ss0, x_Ss1, R.bind_some, List.getElem?_cons_zero, List.getElem?_cons_succ, List.set_cons_zero, List.set_cons_succ, Option.map_some, List.map_cons, List.map_nil, List.replicate, List.cons_append, List.nil_append, List.append_nil, Nat.sub_self, asg_nm, asg_tup, asgs_nil, asgs_cons, List.length_cons, List.length_nil, rd'_int, rd'_str, rd'_tup, rd_lst', rd_bl, rd_non, rd_scr, t_bl, t_int, t_non, Nat.reduceAdd, Nat.reduceLT, reduceIte, and_self]
    rfl
  have hl1 : evE (cfN tab (k + 1)) (.lc false (.call F_is_name [(.var 1)]) (.nm 1) (.seq (.var 0)) none [1]) [some (rowD r), none, none] st = some (.lst ((r.map D.str).map fun _ => D.bl true), st) := by
    refine x_lcp hi (lim10 (by rw [List.length_map]; omega)) fun d hd => ?_
    obtain ⟨s, hs, rfl⟩ := List.mem_map.mp hd
    have q := is_name_ok (k := k) (st := st) (hnm s hs)
    exact ⟨[some (rowD r), some (.str s), none], rfl, by simp only [x_var, x_con, x_glob, x_tup, x_lst, x_bin, x_neg, x_inv, x_cmp, x_not, x_ite, x_ix, x_sl, x_call, x_bi, x_Es0, x_Es1, x_O0, x_O1, x_C0, x_asg, x_par2, x_aug, x_if, x_ret, x_ex, x_never, x_Ss0, x_Ss1, R.bind_some, List.getElem?_cons_zero, List.getElem?_cons_succ, List.set_cons_zero, List.set_cons_succ, Option.map_some, List.map_cons, List.map_nil, List.replicate, List.cons_append, List.nil_append, List.append_nil, Nat.sub_self, asg_nm, asg_tup, asgs_nil, asgs_cons, List.length_cons, List.length_nil, rd'_int, rd'_str, rd'_tup, rd_lst', rd_bl, rd_non, rd_scr, t_bl, t_int, t_non, Nat.reduceAdd, Nat.reduceLT, reduceIte, and_self, q]⟩
  have hz : evI (cfN tab (k + 1)) (.zip (.var 0) (.sl (.var 0) (some (.con (.int 1))) none)) [some (rowD r), none, none] st = some ((r.zip (r.drop 1)).map fun p => D.tup [.str p.1, .str p.2], st) := by
    have hsl : slD (rowD r) (some 1) none = some (.tup ((r.drop 1).map D.str)) := by
      show some (D.tup (cutL (r.map D.str) (some 1) none)) = _
      rw [cut1, List.map_drop]
    rw [x_zip]
    simp only [x_var, x_con, x_glob, x_tup, x_lst, x_bin, x_neg, x_inv, x_cmp, x_not, x_ite, x_ix, x_sl, x_call, x_bi, x_Es0, x_Es1, x_O0, x_O1, x_C0, x_asg, x_par2, x_aug, x_if, x_ret, x_ex, x_never, x_Ss0, x_Ss1, R.bind_some, List.getElem?_cons_zero, List.getElem?_cons_succ, List.set_cons_zero, List.set_cons_succ, Option.map_some, List.map_cons, List.map_nil, List.replicate, List.cons_append, List.nil_append, List.append_nil, Nat.sub_self, asg_nm, asg_tup, asgs_nil, asgs_cons, List.length_cons, List.length_nil, rd'_int, rd'_str, rd'_tup, rd_lst', rd_bl, rd_non, rd_scr, t_bl, t_int, t_non, Nat.reduceAdd, Nat.reduceLT, reduceIte, and_self]
    rw [show rd st (rowD r) = rowD r from rfl, hsl]
    show some (zipD (r.map D.str) ((r.drop 1).map D.str), st) = _
    rw [zip_strs]
  have hl2 : evE (cfN tab (k + 1)) (.lc false (.cmp .Lt (.var 1) (.var 2)) (.tup [1, 2]) (.zip (.var 0) (.sl (.var 0) (some (.con (.int 1))) none)) none [1, 2]) [some (rowD r), none, none] st = some (.lst (((r.zip (r.drop 1)).map fun p => D.tup [.str p.1, .str p.2]).map fun _ => D.bl true), st) := by
    refine x_lcp hz (lim10 (by rw [List.length_map, List.length_zip]; omega)) fun d hd => ?_
    obtain ⟨p, hm, rfl⟩ := List.mem_map.mp hd
    have q : cmpD .Lt st (.str p.1) (.str p.2) = some true := adj_lt hp hn p hm
    exact ⟨[some (rowD r), some (.str p.1), some (.str p.2)], rfl, by simp only [x_var, x_con, x_glob, x_tup, x_lst, x_bin, x_neg, x_inv, x_cmp, x_not, x_ite, x_ix, x_sl, x_call, x_bi, x_Es0, x_Es1, x_O0, x_O1, x_C0, x_asg, x_par2, x_aug, x_if, x_ret, x_ex, x_never, x_Ss0, x_Ss1, R.bind_some, List.getElem?_cons_zero, List.getElem?_cons_succ, List.set_cons_zero, List.set_cons_succ, Option.map_some, List.map_cons, List.map_nil, List.replicate, List.cons_append, List.nil_append, List.append_nil, Nat.sub_self, asg_nm, asg_tup, asgs_nil, asgs_cons, List.length_cons, List.length_nil, rd'_int, rd'_str, rd'_tup, rd_lst', rd_bl, rd_non, rd_scr, t_bl, t_int, t_non, Nat.reduceAdd, Nat.reduceLT, reduceIte, and_self, q]⟩
  have a1 := all_true (st := st) (r.map D.str)
  have a2 := all_true (st := st) ((r.zip (r.drop 1)).map fun p => D.tup [.str p.1, .str p.2])
  simp only [ir_is_row, x_var, x_con, x_glob, x_tup, x_lst, x_bin, x_neg, x_inv, x_cmp, x_not, x_ite, x_ix, x_sl, x_call, x_Es0, x_Es1, x_O0, x_O1, x_C0, x_asg, x_par2, x_aug, x_if, x_ret, x_ex, x_never, x_Ss0, x_Ss1, R.bind_some, List.getElem?_cons_zero, List.getElem?_cons_succ, List.set_cons_zero, List.set_cons_succ, Option.map_some, List.map_cons, List.map_nil, List.replicate, List.cons_append, List.nil_append, List.append_nil, Nat.sub_self, asg_nm, asg_tup, asgs_nil, asgs_cons, List.length_cons, List.length_nil, rd'_int, rd'_str, rd'_tup, rd_lst', rd_bl, rd_non, rd_scr, t_bl, t_int, t_non, Nat.reduceAdd, Nat.reduceLT, reduceIte, and_self, x_or, evOr, x_bi, e2, Bool.not_true, hl1, a1, hl2, a2]
/-! ### the form of a part -/
theorem form_ok (f : Fm) (h : ∀ s ∈ f.names, Nm s) : cfN tab (k + 2) F_has_form [f.d] st = some (.bl true, st) := by
  have nm : ∀ s ∈ f.names, cfN tab (k + 1) F_is_name [.str s] st = some (.bl true, st) := fun s hs => is_name_ok (h s hs)
  refine run_rt rfl (by cases f <;> rfl) ?_
  have c1 : evE (cfN tab (k + 1)) (.or [(.not (.bi (.isinst "tuple") [(.var 0)])), (.cmp .Eq (.bi .len [(.var 0)]) (.con (.int 0))), (.not (.bi (.isinst "str") [(.ix (.var 0) (.con (.int 0)))]))]) [some f.d] st = some (.bl false, st) := by
    cases f <;> kernel_rfl
  have c2 : evE (cfN tab (k + 1)) (.cmp .NotEq (.bi .len [(.var 0)]) (.kget "LENGTHS" [(("yes" : Str), 1), (("no" : Str), 1), (("name" : Str), 2), (("not" : Str), 2), (("and" : Str), 3), (("or" : Str), 3), (("xor" : Str), 3), (("if" : Str), 4), (("some" : Str), 3), (("all" : Str), 3), (("put" : Str), 4)] (.ix (.var 0) (.con (.int 0))) (.con (.int 0)))) [some f.d] st = some (.bl false, st) := by
    cases f with
    | bin w a b =>
      match w with
      | 0 => kernel_rfl
      | 1 => kernel_rfl
      | 2 => kernel_rfl
    | qu w s a => cases w <;> kernel_rfl
    | _ => kernel_rfl
  have c3 : evE (cfN tab (k + 1)) (.or [(.cmp .NotIn (.ix (.var 0) (.con (.int 0))) (.bin .Add (.glob "BINDERS" (.tup [(.str "some"), (.str "all"), (.str "put")])) (.tup [(.con (.str "name"))]))), (.call F_is_name [(.ix (.var 0) (.con (.int 1)))])]) [some f.d] st = some (.bl true, st) := by
    have go : ∀ (s : Str), s ∈ f.names → ixD st f.d (.int 1) = some (.str s) → evE (cfN tab (k + 1)) (.cmp .NotIn (.ix (.var 0) (.con (.int 0))) (.bin .Add (.glob "BINDERS" (.tup [(.str "some"), (.str "all"), (.str "put")])) (.tup [(.con (.str "name"))]))) [some f.d] st = some (.bl false, st) →
        evE (cfN tab (k + 1)) (.or [(.cmp .NotIn (.ix (.var 0) (.con (.int 0))) (.bin .Add (.glob "BINDERS" (.tup [(.str "some"), (.str "all"), (.str "put")])) (.tup [(.con (.str "name"))]))), (.call F_is_name [(.ix (.var 0) (.con (.int 1)))])]) [some f.d] st = some (.bl true, st) := by
      intro s hs e1 e2
      rw [x_or, evOr]
      simp only [e2, R.bind_some]
      rw [x_or1]
      simp only [x_call, x_Es1, x_Es0, x_ix, x_var, x_con, List.getElem?_cons_zero, R.bind_some, e1, Option.map_some, nm s hs]
    cases f with
    | nm s => exact go s (by simp [Fm.names]) rfl (by kernel_rfl)
    | qu w s a => exact go s (by simp [Fm.names]) rfl (by cases w <;> kernel_rfl)
    | put s a b => exact go s (by simp [Fm.names]) rfl (by kernel_rfl)
    | bin w a b =>
      match w with
      | 0 => kernel_rfl
      | 1 => kernel_rfl
      | 2 => kernel_rfl
    | _ => kernel_rfl
  show evSs (cfN tab (k + 1)) ir_has_form.body [some f.d] st = _
  simp only [ir_has_form, x_Ss1, x_if, c1, R.bind_some, t_bl, x_Ss0, c2, x_ret, c3]
end
end Kw

set_option Elab.async false
set_option linter.all false
set_option maxRecDepth 100000
set_option maxHeartbeats 2000000
/-! Law k03: walked. -/
namespace Kw
open PySem

theorem pl_fm : ∀ (f : Fm), (∀ s ∈ f.names, Nm s) → Pl (f.deep + 1) f.d
  | .yes, _ => .tup (.cons (.str _ (by decide +kernel)) (.nil _))
  | .no, _ => .tup (.cons (.str _ (by decide +kernel)) (.nil _))
  | .nm s, h => .tup (.cons (.str _ (by decide +kernel)) (.cons (.str _ (h s (by simp [Fm.names])).ok) (.nil _)))
  | .not a, h => by
    have q := (pl_fm a fun s hs => h s (by simp [Fm.names, hs])).up (m := (Fm.not a).deep) (by simp [Fm.deep]; omega)
    exact .tup (.cons (.str _ (by decide +kernel)) (.cons q (.nil _)))
  | .bin w a b, h => by
    have qa := (pl_fm a fun s hs => h s (by simp [Fm.names, hs])).up (m := (Fm.bin w a b).deep) (by simp [Fm.deep]; omega)
    have qb := (pl_fm b fun s hs => h s (by simp [Fm.names, hs])).up (m := (Fm.bin w a b).deep) (by simp [Fm.deep]; omega)
    have qw : PyData.strOk (binW w) = true := by
      match w with
      | 0 => decide +kernel
      | 1 => decide +kernel
      | 2 => decide +kernel
    exact .tup (.cons (.str _ qw) (.cons qa (.cons qb (.nil _))))
  | .ite a b c, h => by
    have qa := (pl_fm a fun s hs => h s (by simp [Fm.names, hs])).up (m := (Fm.ite a b c).deep) (by simp [Fm.deep]; omega)
    have qb := (pl_fm b fun s hs => h s (by simp [Fm.names, hs])).up (m := (Fm.ite a b c).deep) (by simp [Fm.deep]; omega)
    have qc := (pl_fm c fun s hs => h s (by simp [Fm.names, hs])).up (m := (Fm.ite a b c).deep) (by simp [Fm.deep]; omega)
    exact .tup (.cons (.str _ (by decide +kernel)) (.cons qa (.cons qb (.cons qc (.nil _)))))
  | .qu w s a, h => by
    have qa := (pl_fm a fun s hs => h s (by simp [Fm.names, hs])).up (m := (Fm.qu w s a).deep) (by simp [Fm.deep]; omega)
    have qw : PyData.strOk (quW w) = true := by cases w <;> decide +kernel
    exact .tup (.cons (.str _ qw) (.cons (.str _ (h s (by simp [Fm.names])).ok) (.cons qa (.nil _))))
  | .put s a b, h => by
    have qa := (pl_fm a fun s hs => h s (by simp [Fm.names, hs])).up (m := (Fm.put s a b).deep) (by simp [Fm.deep]; omega)
    have qb := (pl_fm b fun s hs => h s (by simp [Fm.names, hs])).up (m := (Fm.put s a b).deep) (by simp [Fm.deep]; omega)
    exact .tup (.cons (.str _ (by decide +kernel)) (.cons (.str _ (h s (by simp [Fm.names])).ok) (.cons qa (.cons qb (.nil _)))))

/-! ### three objects behind a store -/
section
variable {st : Store} {a b c x : MO}
theorem s3_0 : (st ++ [a, b, c])[st.length]? = some a := by rw [List.getElem?_append_right (Nat.le_refl _), Nat.sub_self]; rfl
theorem s3_1 : (st ++ [a, b, c])[st.length + 1]? = some b := by rw [List.getElem?_append_right (by omega), show st.length + 1 - st.length = 1 by omega]; rfl
theorem s3_2 : (st ++ [a, b, c])[st.length + 2]? = some c := by rw [List.getElem?_append_right (by omega), show st.length + 2 - st.length = 2 by omega]; rfl
theorem s3_s0 : (st ++ [a, b, c]).set st.length x = st ++ [x, b, c] := by rw [List.set_append_right _ _ (Nat.le_refl _), Nat.sub_self]; rfl
theorem s3_s1 : (st ++ [a, b, c]).set (st.length + 1) x = st ++ [a, x, c] := by rw [List.set_append_right _ _ (by omega), show st.length + 1 - st.length = 1 by omega]; rfl
theorem s3_s2 : (st ++ [a, b, c]).set (st.length + 2) x = st ++ [a, b, x] := by rw [List.set_append_right _ _ (by omega), show st.length + 2 - st.length = 2 by omega]; rfl
end
/-! ### the walk's state -/
abbrev Stk := List (List Int × Fm)
def itemD (p : List Int × Fm) : D := .tup [.tup (p.1.map D.int), p.2.d]
def kvD (s : Str) : L2.Key × D := (.inr s, .bl true)
def stW (st : Store) (F : List D) (ns : List Str) (S : Stk) : Store := st ++ [.lst F, .dK (ns.map kvD), .lst (S.reverse.map itemD)]
def env8 (L : Nat) (f : D) (o4 o5 o6 o7 : Option D) : Env := [some f, some (.ref (L + 2)), some (.ref L), some (.ref (L + 1)), o4, o5, o6, o7]
def tot (S : Stk) : Nat := (S.map fun p => p.2.size).sum
def addN (ns : List Str) (s : Str) : List Str := if s ∈ ns then ns else ns ++ [s]
def ownN (f : Fm) (ns : List Str) : List Str := match f with
  | .nm s => addN ns s
  | .qu _ s _ => addN ns s
  | .put s _ _ => addN ns s
  | _ => ns
def kids (w : List Int) : Nat → List Fm → Stk
  | _, [] => []
  | i, p :: ps => (w ++ [(i : Int)], p) :: kids w (i + 1) ps
theorem putK_N (ns : List Str) (s : Str) : putK (ns.map kvD) (.inr s) (.bl true) = (addN ns s).map kvD := by
  unfold putK addN
  have e : ((ns.map kvD).any fun p => decide (p.1 = .inr s)) = decide (s ∈ ns) := by
    rw [Bool.eq_iff_iff, List.any_eq_true, decide_eq_true_eq]
    constructor
    · rintro ⟨p, hp, h⟩
      obtain ⟨t, ht, rfl⟩ := List.mem_map.mp hp
      have : t = s := by
        have h' : (Sum.inr t : L2.Key) = .inr s := of_decide_eq_true h
        injection h'
      rw [← this]
      exact ht
    · intro h
      exact ⟨kvD s, List.mem_map.mpr ⟨s, h, rfl⟩, decide_eq_true rfl⟩
  rw [e]
  by_cases h : s ∈ ns
  · rw [if_pos (decide_eq_true h), if_pos h, List.map_map]
    refine List.map_congr_left fun t ht => ?_
    show (if (Sum.inr t : L2.Key) = .inr s then _ else _) = kvD t
    split <;> rfl
  · rw [if_neg (by simpa using h), if_neg h, List.map_append]
    rfl
section
variable {k : Nat} {st : Store} {F : List D} {ns : List Str} {S : Stk} {f0 : D} {o4 o5 o6 o7 : Option D}
theorem w_pop {cf : CF} {w : List Int} {p : Fm} : evS cf (.asg (.tup [5, 6]) (.mt .pop0 (.var 1) [])) (env8 st.length f0 o4 o5 o6 o7) (stW st F ns ((w, p) :: S)) = some (.nx (env8 st.length f0 o4 (some (.tup (w.map D.int))) (some p.d) o7), stW st F ns S) := by
  have e : ((w, p) :: S).reverse.map itemD = S.reverse.map itemD ++ [itemD (w, p)] := by rw [List.reverse_cons, List.map_append]; rfl
  have g : (stW st F ns ((w, p) :: S))[st.length + 2]? = some (.lst (S.reverse.map itemD ++ [itemD (w, p)])) := by unfold stW; rw [s3_2, e]
  have t : mtTy .pop0 (.ref (st.length + 2)) (stW st F ns ((w, p) :: S)) = true := by
    simp only [mtTy, g]
  have m : mtD .pop0 (.ref (st.length + 2)) [] (stW st F ns ((w, p) :: S)) = some (itemD (w, p), stW st F ns S) := by
    simp only [mtD, g]
    have h1 : (S.reverse.map itemD ++ [itemD (w, p)])[(S.reverse.map itemD ++ [itemD (w, p)]).length - 1]? = some (itemD (w, p)) := by
      rw [List.length_append, List.length_singleton, Nat.add_sub_cancel, List.getElem?_append_right (Nat.le_refl _), Nat.sub_self]
      rfl
    rw [h1, List.dropLast_concat]
    unfold stW
    rw [s3_s2]
  rw [x_asg, x_mt]
  simp only [env8, x_var, x_con, x_glob, x_tup, x_lst, x_bin, x_neg, x_inv, x_cmp, x_not, x_ite, x_ix, x_sl, x_call, x_bi, x_Es0, x_Es1, x_O0, x_O1, x_C0, x_asg, x_par2, x_aug, x_if, x_ret, x_ex, x_never, x_Ss0, x_Ss1, R.bind_some, List.getElem?_cons_zero, List.getElem?_cons_succ, List.set_cons_zero, List.set_cons_succ, Option.map_some, List.map_cons, List.map_nil, List.replicate, List.cons_append, List.nil_append, List.append_nil, Nat.sub_self, asg_nm, asg_tup, asgs_nil, asgs_cons, List.length_cons, List.length_nil, rd'_int, rd'_str, rd'_tup, rd_lst', rd_bl, rd_non, rd_scr, t_bl, t_int, t_non, Nat.reduceAdd, Nat.reduceLT, reduceIte, and_self, t, m]
  rfl
theorem rd_W2 : rd (stW st F ns S) (.ref (st.length + 2)) = .lst (S.reverse.map itemD) := by
  unfold rd stW
  simp only [s3_2]
theorem len_W0 : biD .len [.ref st.length] (stW st F ns S) = some (.int F.length, stW st F ns S) := by
  unfold stW
  simp only [biD, s3_0]
theorem len_W1 : biD .len [.ref (st.length + 1)] (stW st F ns S) = some (.int ns.length, stW st F ns S) := by
  unfold stW
  simp only [biD, s3_1, List.length_map]
theorem pl_item {p : List Int × Fm} (hd : p.2.deep ≤ 20) (h : ∀ s ∈ p.2.names, Nm s) : Pl 22 (itemD p) := by
  have h1 : Pls 20 (p.1.map D.int) := .of fun d hd => by
    obtain ⟨i, _, rfl⟩ := List.mem_map.mp hd
    exact .int _ i
  exact .tup (.cons (.tup h1) (.cons ((pl_fm p.2 h).up (by omega)) (.nil _)))
theorem w_cond {cf : CF} (h : ∀ p ∈ S, p.2.deep ≤ 20 ∧ ∀ s ∈ p.2.names, Nm s) : evE cf (.cmp .NotEq (.var 1) (.lst [])) (env8 st.length f0 o4 o5 o6 o7) (stW st F ns S) = some (.bl (!S.isEmpty), stW st F ns S) := by
  have hp : Pls 22 (S.reverse.map itemD) := .of fun d hd => by
    obtain ⟨p, hp, rfl⟩ := List.mem_map.mp hd
    obtain ⟨h1, h2⟩ := h p (List.mem_reverse.mp hp)
    exact pl_item h1 h2
  have c : cmpD .NotEq (stW st F ns S) (.ref (st.length + 2)) (.lst []) = some (!S.isEmpty) := by
    rw [cmpNe (by rw [rd_W2]; exact Pl.eqOk (.lst hp) (by omega)) (Pl.eqOk (.lst (.nil 0)) (by omega)), rd_W2, rd_lst', eqv_nil]
    cases S with
    | nil => rfl
    | cons p S => simp
  simp only [env8, x_var, x_con, x_glob, x_tup, x_lst, x_bin, x_neg, x_inv, x_cmp, x_not, x_ite, x_ix, x_sl, x_call, x_bi, x_Es0, x_Es1, x_O0, x_O1, x_C0, x_asg, x_par2, x_aug, x_if, x_ret, x_ex, x_never, x_Ss0, x_Ss1, R.bind_some, List.getElem?_cons_zero, List.getElem?_cons_succ, List.set_cons_zero, List.set_cons_succ, Option.map_some, List.map_cons, List.map_nil, List.replicate, List.cons_append, List.nil_append, List.append_nil, Nat.sub_self, asg_nm, asg_tup, asgs_nil, asgs_cons, List.length_cons, List.length_nil, rd'_int, rd'_str, rd'_tup, rd_lst', rd_bl, rd_non, rd_scr, t_bl, t_int, t_non, Nat.reduceAdd, Nat.reduceLT, reduceIte, and_self, c]
theorem w_if1 {w : List Int} {p : Fm} (hF : F.length < 60) (hw : w.length ≤ 9) (hn : ∀ s ∈ p.names, Nm s) : evS (cfN tab (k + 2)) (.if_ (.or [(.cmp .Eq (.bi .len [(.var 2)]) (.glob "MOST_PARTS" (.int 60))), (.cmp .Gt (.bi .len [(.var 5)]) (.glob "MOST_WITHIN" (.int 9))), (.not (.call F_has_form [(.var 6)]))]) [.never] [])
    (env8 st.length f0 o4 (some (.tup (w.map D.int))) (some p.d) o7) (stW st F ns S) = some (.nx (env8 st.length f0 o4 (some (.tup (w.map D.int))) (some p.d) o7), stW st F ns S) := by
  have c1 : cmpD .Eq (stW st F ns S) (.int F.length) (.int 60) = some false := by rw [cmp_ii, decide_eq_false (by omega)]
  have e2 : biD .len [.tup (w.map D.int)] (stW st F ns S) = some (.int w.length, stW st F ns S) := by
    show some (D.int ((w.map D.int).length : Nat), _) = _
    rw [List.length_map]
  have c2 : cmpD .Gt (stW st F ns S) (.int w.length) (.int 9) = some false := by rw [cmp_gt, decide_eq_false (by omega)]
  have h := form_ok (k := k) (st := stW st F ns S) p hn
  rw [x_if, x_or, evOr]
  simp only [env8, x_var, x_con, x_glob, x_tup, x_lst, x_bin, x_neg, x_inv, x_cmp, x_not, x_ite, x_ix, x_sl, x_call, x_bi, x_Es0, x_Es1, x_O0, x_O1, x_C0, x_asg, x_par2, x_aug, x_if, x_ret, x_ex, x_never, x_Ss0, x_Ss1, R.bind_some, List.getElem?_cons_zero, List.getElem?_cons_succ, List.set_cons_zero, List.set_cons_succ, Option.map_some, List.map_cons, List.map_nil, List.replicate, List.cons_append, List.nil_append, List.append_nil, Nat.sub_self, asg_nm, asg_tup, asgs_nil, asgs_cons, List.length_cons, List.length_nil, rd'_int, rd'_str, rd'_tup, rd_lst', rd_bl, rd_non, rd_scr, t_bl, t_int, t_non, Nat.reduceAdd, Nat.reduceLT, reduceIte, and_self, len_W0, c1]
  rw [evOr]
  simp only [env8, x_var, x_con, x_glob, x_tup, x_lst, x_bin, x_neg, x_inv, x_cmp, x_not, x_ite, x_ix, x_sl, x_call, x_bi, x_Es0, x_Es1, x_O0, x_O1, x_C0, x_asg, x_par2, x_aug, x_if, x_ret, x_ex, x_never, x_Ss0, x_Ss1, R.bind_some, List.getElem?_cons_zero, List.getElem?_cons_succ, List.set_cons_zero, List.set_cons_succ, Option.map_some, List.map_cons, List.map_nil, List.replicate, List.cons_append, List.nil_append, List.append_nil, Nat.sub_self, asg_nm, asg_tup, asgs_nil, asgs_cons, List.length_cons, List.length_nil, rd'_int, rd'_str, rd'_tup, rd_lst', rd_bl, rd_non, rd_scr, t_bl, t_int, t_non, Nat.reduceAdd, Nat.reduceLT, reduceIte, and_self, e2, c2]
  rw [x_or1]
  simp only [x_var, x_con, x_glob, x_tup, x_lst, x_bin, x_neg, x_inv, x_cmp, x_not, x_ite, x_ix, x_sl, x_call, x_bi, x_Es0, x_Es1, x_O0, x_O1, x_C0, x_asg, x_par2, x_aug, x_if, x_ret, x_ex, x_never, x_Ss0, x_Ss1, R.bind_some, List.getElem?_cons_zero, List.getElem?_cons_succ, List.set_cons_zero, List.set_cons_succ, Option.map_some, List.map_cons, List.map_nil, List.replicate, List.cons_append, List.nil_append, List.append_nil, Nat.sub_self, asg_nm, asg_tup, asgs_nil, asgs_cons, List.length_cons, List.length_nil, rd'_int, rd'_str, rd'_tup, rd_lst', rd_bl, rd_non, rd_scr, t_bl, t_int, t_non, Nat.reduceAdd, Nat.reduceLT, reduceIte, and_self, h, Bool.not_true]
theorem w_name (hl : ns.length ≤ 1000) {s : Str} {d : D} {cf : CF} (h0 : evE cf (.cmp .In (.ix (.var 6) (.con (.int 0))) (.bin .Add (.glob "BINDERS" (.tup [(.str "some"), (.str "all"), (.str "put")])) (.tup [(.con (.str "name"))]))) (env8 st.length f0 o4 o5 (some d) o7) (stW st F ns S) = some (.bl true, stW st F ns S)) (h1 : ixD (stW st F ns S) d (.int 1) = some (.str s)) :
    evS cf (.if_ (.cmp .In (.ix (.var 6) (.con (.int 0))) (.bin .Add (.glob "BINDERS" (.tup [(.str "some"), (.str "all"), (.str "put")])) (.tup [(.con (.str "name"))]))) [.sub (.var 3) (.ix (.var 6) (.con (.int 1))) (.con (.bl true))] [])
      (env8 st.length f0 o4 o5 (some d) o7) (stW st F ns S) = some (.nx (env8 st.length f0 o4 o5 (some d) o7), stW st F (addN ns s) S) := by
  have hs : subD (.ref (st.length + 1)) (.str s) (.bl true) (stW st F ns S) = some (stW st F (addN ns s) S) := by
    unfold stW
    simp only [subD, s3_1, D.key, D.clean, List.length_map, Bool.true_and]
    rw [if_pos (decide_eq_true (Nat.lt_of_le_of_lt hl (by decide))), putK_N, s3_s1]
  rw [x_if, h0, R.bind_some, t_bl]
  show evSs cf _ _ _ = _
  rw [x_Ss1, x_sub]
  simp only [env8, x_var, x_con, x_glob, x_tup, x_lst, x_bin, x_neg, x_inv, x_cmp, x_not, x_ite, x_ix, x_sl, x_call, x_bi, x_Es0, x_Es1, x_O0, x_O1, x_C0, x_asg, x_par2, x_aug, x_if, x_ret, x_ex, x_never, x_Ss0, x_Ss1, R.bind_some, List.getElem?_cons_zero, List.getElem?_cons_succ, List.set_cons_zero, List.set_cons_succ, Option.map_some, List.map_cons, List.map_nil, List.replicate, List.cons_append, List.nil_append, List.append_nil, Nat.sub_self, asg_nm, asg_tup, asgs_nil, asgs_cons, List.length_cons, List.length_nil, rd'_int, rd'_str, rd'_tup, rd_lst', rd_bl, rd_non, rd_scr, t_bl, t_int, t_non, Nat.reduceAdd, Nat.reduceLT, reduceIte, and_self, h1, hs]
theorem w_if2 (hl : ns.length ≤ 1000) {cf : CF} (p : Fm) : evS cf (.if_ (.cmp .In (.ix (.var 6) (.con (.int 0))) (.bin .Add (.glob "BINDERS" (.tup [(.str "some"), (.str "all"), (.str "put")])) (.tup [(.con (.str "name"))]))) [.sub (.var 3) (.ix (.var 6) (.con (.int 1))) (.con (.bl true))] [])
      (env8 st.length f0 o4 o5 (some p.d) o7) (stW st F ns S) = some (.nx (env8 st.length f0 o4 o5 (some p.d) o7), stW st F (ownN p ns) S) := by
  have skip : evE cf (.cmp .In (.ix (.var 6) (.con (.int 0))) (.bin .Add (.glob "BINDERS" (.tup [(.str "some"), (.str "all"), (.str "put")])) (.tup [(.con (.str "name"))]))) (env8 st.length f0 o4 o5 (some p.d) o7) (stW st F ns S) = some (.bl false, stW st F ns S) → ownN p ns = ns →
      evS cf (.if_ (.cmp .In (.ix (.var 6) (.con (.int 0))) (.bin .Add (.glob "BINDERS" (.tup [(.str "some"), (.str "all"), (.str "put")])) (.tup [(.con (.str "name"))]))) [.sub (.var 3) (.ix (.var 6) (.con (.int 1))) (.con (.bl true))] [])
      (env8 st.length f0 o4 o5 (some p.d) o7) (stW st F ns S) = some (.nx (env8 st.length f0 o4 o5 (some p.d) o7), stW st F (ownN p ns) S) := fun h e => by
    rw [x_if, h, R.bind_some, t_bl, e]
    show evSs cf _ _ _ = _
    rw [x_Ss0]
  generalize hW : stW st F ns S = W at *
  cases p with
  | nm s => rw [← hW]; exact w_name hl (by kernel_rfl) rfl
  | qu w s a => rw [← hW]; exact w_name hl (by cases w <;> kernel_rfl) (by cases w <;> rfl)
  | put s a b => rw [← hW]; exact w_name hl (by kernel_rfl) rfl
  | bin w a b =>
    match w with
    | 0 => exact skip (by kernel_rfl) rfl
    | 1 => exact skip (by kernel_rfl) rfl
    | 2 => exact skip (by kernel_rfl) rfl
  | _ => exact skip (by kernel_rfl) rfl
theorem w_if3 (hl : ns.length ≤ 10) {cf : CF} : evS cf (.if_ (.cmp .Gt (.bi .len [(.var 3)]) (.glob "MOST_NAMES" (.int 10))) [.never] []) (env8 st.length f0 o4 o5 o6 o7) (stW st F ns S) = some (.nx (env8 st.length f0 o4 o5 o6 o7), stW st F ns S) := by
  have c : cmpD .Gt (stW st F ns S) (.int ns.length) (.int 10) = some false := by rw [cmp_gt, decide_eq_false (by omega)]
  simp only [env8, x_var, x_con, x_glob, x_tup, x_lst, x_bin, x_neg, x_inv, x_cmp, x_not, x_ite, x_ix, x_sl, x_call, x_bi, x_Es0, x_Es1, x_O0, x_O1, x_C0, x_asg, x_par2, x_aug, x_if, x_ret, x_ex, x_never, x_Ss0, x_Ss1, R.bind_some, List.getElem?_cons_zero, List.getElem?_cons_succ, List.set_cons_zero, List.set_cons_succ, Option.map_some, List.map_cons, List.map_nil, List.replicate, List.cons_append, List.nil_append, List.append_nil, Nat.sub_self, asg_nm, asg_tup, asgs_nil, asgs_cons, List.length_cons, List.length_nil, rd'_int, rd'_str, rd'_tup, rd_lst', rd_bl, rd_non, rd_scr, t_bl, t_int, t_non, Nat.reduceAdd, Nat.reduceLT, reduceIte, and_self, len_W1, c]
theorem w_app (hF : F.length < 1000) {cf : CF} {d : D} (hd : d.clean = true) : evS cf (.ex (.mt .append (.var 2) [(.var 6)])) (env8 st.length f0 o4 o5 (some d) o7) (stW st F ns S) = some (.nx (env8 st.length f0 o4 o5 (some d) o7), stW st (F ++ [d]) ns S) := by
  have t : mtTy .append (.ref st.length) (stW st F ns S) = true := by unfold stW; simp only [mtTy, s3_0]
  have m : mtD .append (.ref st.length) [d] (stW st F ns S) = some (.non, stW st (F ++ [d]) ns S) := by
    unfold stW
    simp only [mtD, s3_0, hd, Bool.true_and]
    rw [if_pos (decide_eq_true (Nat.lt_of_lt_of_le hF (by decide))), s3_s0]
  rw [x_ex, x_mt]
  simp only [env8, x_var, x_con, x_glob, x_tup, x_lst, x_bin, x_neg, x_inv, x_cmp, x_not, x_ite, x_ix, x_sl, x_call, x_bi, x_Es0, x_Es1, x_O0, x_O1, x_C0, x_asg, x_par2, x_aug, x_if, x_ret, x_ex, x_never, x_Ss0, x_Ss1, R.bind_some, List.getElem?_cons_zero, List.getElem?_cons_succ, List.set_cons_zero, List.set_cons_succ, Option.map_some, List.map_cons, List.map_nil, List.replicate, List.cons_append, List.nil_append, List.append_nil, Nat.sub_self, asg_nm, asg_tup, asgs_nil, asgs_cons, List.length_cons, List.length_nil, rd'_int, rd'_str, rd'_tup, rd_lst', rd_bl, rd_non, rd_scr, t_bl, t_int, t_non, Nat.reduceAdd, Nat.reduceLT, reduceIte, and_self, t, m]
theorem kids_len (w : List Int) : ∀ (i : Nat) (ps : List Fm), (kids w i ps).length = ps.length
  | _, [] => rfl
  | i, p :: ps => by rw [kids, List.length_cons, List.length_cons, kids_len w (i + 1) ps]
theorem rrev : ∀ (n : Nat), (rngD 0 (n : Int)).reverse = ((List.range n).map fun (i : Nat) => D.int i).reverse := fun n => by
  unfold rngD
  rw [Int.sub_zero, Int.toNat_natCast]
  refine congrArg List.reverse (List.map_congr_left fun i _ => ?_)
  rw [Int.zero_add]
theorem kids_map (w : List Int) : ∀ (ps : List Fm) (i : Nat), (kids w i ps).map itemD = (List.range ps.length).map fun j => D.tup [.tup (w.map D.int ++ [.int ((i + j : Nat) : Int)]), ((ps[j]?).map Fm.d).getD .non]
  | [], _ => rfl
  | p :: ps, i => by
    rw [kids, List.map_cons, kids_map w ps (i + 1), List.length_cons, List.range_succ_eq_map, List.map_cons, List.map_map]
    refine congr (congrArg List.cons ?_) (List.map_congr_left fun j _ => ?_)
    · simp [itemD]
    · show _ = D.tup [.tup (w.map D.int ++ [.int ((i + (j + 1) : Nat) : Int)]), _]
      rw [show i + 1 + j = i + (j + 1) by omega]
      rfl
theorem ixN_nat' {n j : Nat} (h : j < n) : L2.ixN n (j : Int) = some j := by
  unfold L2.ixN
  rw [if_pos (by omega), if_pos (by omega), Int.toNat_natCast]
theorem kids_in {w : List Int} : ∀ {i : Nat} {ps : List Fm} {q : List Int × Fm}, q ∈ kids w i ps → q.2 ∈ ps
  | _, [], _, h => by cases h
  | i, p :: ps, q, h => by
    rw [kids] at h
    rcases List.mem_cons.mp h with rfl | h
    · exact List.mem_cons_self
    · exact List.mem_cons_of_mem _ (kids_in h)
theorem part_deep {g p : Fm} (h : g ∈ p.parts) : g.deep + 1 ≤ p.deep := by
  cases p <;> simp only [Fm.parts, List.mem_cons, List.not_mem_nil, or_false] at h <;> simp only [Fm.deep] <;> first | (rcases h with rfl | rfl | rfl <;> omega) | (rcases h with rfl | rfl <;> omega) | (subst h; omega)
theorem w_ext {w : List Int} {p : Fm} (hw : w.length ≤ 1000) (hS : S.length ≤ 1000) (hn : ∀ s ∈ p.names, Nm s) {cf : CF} {o6 : Option D} : evS cf (.ex (.mt .extend (.var 1) [(.lc false (.tup [(.bin .Add (.var 5) (.tup [(.var 7)])), (.ix (.var 4) (.var 7))]) (.nm 7) (.rrng (.bi .len [(.var 4)])) none [7])]))
    (env8 st.length f0 (some (.lst (p.parts.map Fm.d))) (some (.tup (w.map D.int))) o6 o7) (stW st F ns S) = some (.nx (env8 st.length f0 (some (.lst (p.parts.map Fm.d))) (some (.tup (w.map D.int))) o6 o7), stW st F ns (kids w 0 p.parts ++ S)) := by
  have hp3 : p.parts.length ≤ 3 := by cases p <;> simp [Fm.parts]
  have t : mtTy .extend (.ref (st.length + 2)) (stW st F ns S) = true := by unfold stW; simp only [mtTy, s3_2]
  have hi : evI cf (.rrng (.bi .len [(.var 4)])) (env8 st.length f0 (some (.lst (p.parts.map Fm.d))) (some (.tup (w.map D.int))) o6 o7) (stW st F ns S) = some (((List.range p.parts.length).map fun (i : Nat) => D.int i).reverse, stW st F ns S) := by
    have e : evE cf (.bi .len [(.var 4)]) (env8 st.length f0 (some (.lst (p.parts.map Fm.d))) (some (.tup (w.map D.int))) o6 o7) (stW st F ns S) = some (.int p.parts.length, stW st F ns S) := by
      simp only [env8, x_var, x_con, x_glob, x_tup, x_lst, x_bin, x_neg, x_inv, x_cmp, x_not, x_ite, x_ix, x_sl, x_call, x_bi, x_Es0, x_Es1, x_O0, x_O1, x_C0, x_asg, x_par2, x_aug, x_if, x_ret, x_ex, x_never, x_Ss0, x_Ss1, R.bind_some, List.getElem?_cons_zero, List.getElem?_cons_succ, List.set_cons_zero, List.set_cons_succ, Option.map_some, List.map_cons, List.map_nil, List.replicate, List.cons_append, List.nil_append, List.append_nil, Nat.sub_self, asg_nm, asg_tup, asgs_nil, asgs_cons, List.length_cons, List.length_nil, rd'_int, rd'_str, rd'_tup, rd_lst', rd_bl, rd_non, rd_scr, t_bl, t_int, t_non, Nat.reduceAdd, Nat.reduceLT, reduceIte, and_self, bi_len, List.length_map]
    rw [x_rrng, e, R.bind_some, ← rrev]
    exact if_pos (rng_le (by omega))
  have hl : evE cf (.lc false (.tup [(.bin .Add (.var 5) (.tup [(.var 7)])), (.ix (.var 4) (.var 7))]) (.nm 7) (.rrng (.bi .len [(.var 4)])) none [7]) (env8 st.length f0 (some (.lst (p.parts.map Fm.d))) (some (.tup (w.map D.int))) o6 o7) (stW st F ns S)
      = some (.lst ((kids w 0 p.parts).reverse.map itemD), stW st F ns S) := by
    have e : (kids w 0 p.parts).reverse.map itemD = (((List.range p.parts.length).map fun (i : Nat) => D.int i).reverse).map fun d => match d with
        | .int i => D.tup [.tup (w.map D.int ++ [.int i]), ((p.parts[i.toNat]?).map Fm.d).getD .non]
        | d => d := by
      rw [List.map_reverse, List.map_reverse, kids_map, List.map_map]
      refine congrArg List.reverse (List.map_congr_left fun j _ => ?_)
      show _ = D.tup [.tup (w.map D.int ++ [.int (j : Int)]), ((p.parts[((j : Int)).toNat]?).map Fm.d).getD .non]
      rw [Int.toNat_natCast, Nat.zero_add]
    rw [e]
    refine x_lcp hi (lim10 (by simp; omega)) fun d hd => ?_
    obtain ⟨j, hj, rfl⟩ := List.mem_map.mp (List.mem_reverse.mp hd)
    have hj' := List.mem_range.mp hj
    refine ⟨env8 st.length f0 (some (.lst (p.parts.map Fm.d))) (some (.tup (w.map D.int))) o6 (some (.int j)), rfl, ?_⟩
    have b : binD .Add (.tup (w.map D.int)) (.tup [.int (j : Int)]) = some (.tup (w.map D.int ++ [.int (j : Int)])) := if_pos (by
      rw [List.length_map]
      exact lim10 (by simp; omega))
    have ix : ixD (stW st F ns S) (.lst (p.parts.map Fm.d)) (.int (j : Int)) = some (((p.parts[((j : Int)).toNat]?).map Fm.d).getD .non) := by
      show L2.atI _ _ = _
      unfold L2.atI
      rw [ixN_nat' (by rw [List.length_map]; exact hj'), Int.toNat_natCast]
      show (p.parts.map Fm.d)[j]? = _
      rw [List.getElem?_map, List.getElem?_eq_getElem hj']
      rfl
    simp only [env8, x_var, x_con, x_glob, x_tup, x_lst, x_bin, x_neg, x_inv, x_cmp, x_not, x_ite, x_ix, x_sl, x_call, x_bi, x_Es0, x_Es1, x_O0, x_O1, x_C0, x_asg, x_par2, x_aug, x_if, x_ret, x_ex, x_never, x_Ss0, x_Ss1, R.bind_some, List.getElem?_cons_zero, List.getElem?_cons_succ, List.set_cons_zero, List.set_cons_succ, Option.map_some, List.map_cons, List.map_nil, List.replicate, List.cons_append, List.nil_append, List.append_nil, Nat.sub_self, asg_nm, asg_tup, asgs_nil, asgs_cons, List.length_cons, List.length_nil, rd'_int, rd'_str, rd'_tup, rd_lst', rd_bl, rd_non, rd_scr, t_bl, t_int, t_non, Nat.reduceAdd, Nat.reduceLT, reduceIte, and_self, b, ix]
  have hk : ∀ q ∈ kids w 0 p.parts, ∀ s ∈ q.2.names, Nm s := by
    have sub : ∀ (i : Nat) (ps : List Fm), (∀ g ∈ ps, ∀ s ∈ g.names, Nm s) → ∀ q ∈ kids w i ps, ∀ s ∈ q.2.names, Nm s := by
      intro i ps
      induction ps generalizing i with
      | nil => intro _ q hq; cases hq
      | cons g ps ih =>
        intro h q hq
        rw [kids] at hq
        rcases List.mem_cons.mp hq with rfl | hq
        · exact h g List.mem_cons_self
        · exact ih (i + 1) (fun g' hg' => h g' (List.mem_cons_of_mem _ hg')) q hq
    refine sub 0 p.parts fun g hg s hs => hn s ?_
    cases p <;> simp [Fm.parts] at hg <;> simp [Fm.names] <;> (rcases hg with rfl | rfl | rfl <;> simp [hs]) <;> (rcases hg with rfl | rfl <;> simp [hs])
  have hcl : D.cleans ((kids w 0 p.parts).reverse.map itemD) = true := by
    refine Pls.cleans (n := p.deep + 3) (.of fun d hd => ?_)
    obtain ⟨q, hq, rfl⟩ := List.mem_map.mp hd
    have hqp : q.2 ∈ p.parts := kids_in (List.mem_reverse.mp hq)
    have hdp : q.2.deep + 1 ≤ p.deep := part_deep hqp
    have h1 : Pls (p.deep + 1) (q.1.map D.int) := .of fun d hd => by
      obtain ⟨i, _, rfl⟩ := List.mem_map.mp hd
      exact .int _ i
    exact .tup (.cons (.tup h1) (.cons ((pl_fm q.2 (hk q (List.mem_reverse.mp hq))).up (by omega)) (.nil _)))
  have m : mtD .extend (.ref (st.length + 2)) [.lst ((kids w 0 p.parts).reverse.map itemD)] (stW st F ns S) = some (.non, stW st F ns (kids w 0 p.parts ++ S)) := by
    unfold stW
    simp only [mtD, s3_2, hcl, Bool.true_and]
    rw [if_pos (decide_eq_true (lim10 (by simp [kids_len]; omega))), s3_s2, List.reverse_append, List.map_append]
  rw [x_ex, x_mt, x_var]
  show R.bind (if mtTy .extend (.ref (st.length + 2)) (stW st F ns S) then _ else _) _ = _
  rw [if_pos t, x_Es1, hl, R.bind_some, x_Es0, R.bind_some, R.bind_some, m]
  rfl
end
end Kw

set_option Elab.async false
set_option linter.all false
set_option maxRecDepth 100000
set_option maxHeartbeats 2000000
/-! Law k03: walked, the loop; names_in, need_order, is_yes, rows_of. -/
namespace Kw
open PySem
theorem Fm.size_pos (f : Fm) : 1 ≤ f.size := by cases f <;> simp only [Fm.size] <;> omega
theorem tot_len : ∀ (S : Stk), S.length ≤ tot S
  | [] => Nat.le_refl _
  | p :: S => by
    have := tot_len S
    have := p.2.size_pos
    show S.length + 1 ≤ p.2.size + tot S
    omega
theorem tot_app (A B : Stk) : tot (A ++ B) = tot A + tot B := by simp [tot]
theorem kids_tot (w : List Int) : ∀ (ps : List Fm) (i : Nat), tot (kids w i ps) = (ps.map Fm.size).sum
  | [], _ => rfl
  | p :: ps, i => by
    rw [kids]
    show p.size + tot _ = p.size + _
    rw [kids_tot w ps]
    rfl
theorem size_parts (p : Fm) : p.size = 1 + (p.parts.map Fm.size).sum := by cases p <;> simp [Fm.size, Fm.parts]
theorem onm {p : Fm} {ns : List Str} {x : Str} : (x ∈ ownN p ns ∨ ∃ g ∈ p.parts, x ∈ g.names) ↔ (x ∈ ns ∨ x ∈ p.names) := by
  have hA : ∀ s, x ∈ addN ns s ↔ (x ∈ ns ∨ x = s) := fun s => by
    unfold addN
    split
    · rename_i h
      exact ⟨Or.inl, fun h' => h'.elim id fun e => e ▸ h⟩
    · simp
  cases p <;> simp only [ownN, Fm.parts, Fm.names, hA, List.mem_cons, List.mem_append, List.not_mem_nil, or_false, exists_eq_or_imp, exists_eq_left, false_and, exists_false, or_assoc]
theorem own_nodup {p : Fm} {ns : List Str} (h : ns.Nodup) : (ownN p ns).Nodup := by
  have hA : ∀ s, (addN ns s).Nodup := fun s => by
    unfold addN
    split
    · exact h
    · rename_i hs
      refine List.nodup_append.mpr ⟨h, by simp, ?_⟩
      intro a ha b hb
      rw [List.mem_singleton.mp hb]
      rintro rfl
      exact hs ha
  cases p <;> simp only [ownN] <;> first | exact h | exact hA _
theorem kids_way {w : List Int} : ∀ {i : Nat} {ps : List Fm} {q : List Int × Fm}, q ∈ kids w i ps → q.1.length = w.length + 1
  | _, [], _, h => by cases h
  | i, p :: ps, q, h => by
    rw [kids] at h
    rcases List.mem_cons.mp h with rfl | h
    · simp
    · exact kids_way h
theorem part_names {g p : Fm} (h : g ∈ p.parts) {s : Str} (hs : s ∈ g.names) : s ∈ p.names := (onm (ns := []).mp (.inr ⟨g, h, hs⟩)).elim (fun h => by cases h) id
theorem parts_kids {w : List Int} : ∀ {i : Nat} {ps : List Fm} {g : Fm}, g ∈ ps → ∃ q ∈ kids w i ps, q.2 = g
  | _, [], _, h => by cases h
  | i, p :: ps, g, h => by
    rw [kids]
    rcases List.mem_cons.mp h with rfl | h
    · exact ⟨_, List.mem_cons_self, rfl⟩
    · obtain ⟨q, hq, e⟩ := parts_kids (w := w) (i := i + 1) h
      exact ⟨q, List.mem_cons_of_mem _ hq, e⟩
theorem nodup_len : ∀ {a b : List Str} (h : a.Nodup) (hs : ∀ x ∈ a, x ∈ b), a.length ≤ b.length
  | [], _, _, _ => Nat.zero_le _
  | x :: a, b, h, hs => by
    obtain ⟨h1, h2⟩ := List.nodup_cons.mp h
    have hx : x ∈ b := hs x List.mem_cons_self
    have := nodup_len (b := b.erase x) h2 fun y hy => (List.mem_erase_of_ne (show y ≠ x from fun e => h1 (e ▸ hy))).mpr (hs y (List.mem_cons_of_mem _ hy))
    rw [List.length_erase_of_mem hx] at this
    have := List.length_pos_of_mem hx
    rw [List.length_cons]
    omega
theorem Ss_nx {cf : CF} {s : S} {ss : List S} {env env1 : Env} {st st1 : Store} (h : evS cf s env st = some (.nx env1, st1)) : evSs cf (s :: ss) env st = evSs cf ss env1 st1 := by
  rw [x_Ss1, h]
  rfl
theorem Ss_rt {cf : CF} {s : S} {ss : List S} {env : Env} {d : D} {st st1 : Store} (h : evS cf s env st = some (.rt d, st1)) : evSs cf (s :: ss) env st = some (.rt d, st1) := by
  rw [x_Ss1, h]
  rfl
abbrev w_c : E := .cmp .NotEq (.var 1) (.lst [])
abbrev w_b : List S := [.asg (.tup [5, 6]) (.mt .pop0 (.var 1) []),
     .if_ (.or [(.cmp .Eq (.bi .len [(.var 2)]) (.glob "MOST_PARTS" (.int 60))), (.cmp .Gt (.bi .len [(.var 5)]) (.glob "MOST_WITHIN" (.int 9))), (.not (.call F_has_form [(.var 6)]))]) [.never] [],
     .if_ (.cmp .In (.ix (.var 6) (.con (.int 0))) (.bin .Add (.glob "BINDERS" (.tup [(.str "some"), (.str "all"), (.str "put")])) (.tup [(.con (.str "name"))]))) [.sub (.var 3) (.ix (.var 6) (.con (.int 1))) (.con (.bl true))] [],
     .if_ (.cmp .Gt (.bi .len [(.var 3)]) (.glob "MOST_NAMES" (.int 10))) [.never] [],
     .ex (.mt .append (.var 2) [(.var 6)]),
     .asg (.nm 4) (.call F_own_parts [(.var 6)]),
     .ex (.mt .extend (.var 1) [(.lc false (.tup [(.bin .Add (.var 5) (.tup [(.var 7)])), (.ix (.var 4) (.var 7))]) (.nm 7) (.rrng (.bi .len [(.var 4)])) none [7])])]
theorem w_body {k : Nat} {st : Store} {F : List D} {ns : List Str} {S : Stk} {f0 : D} {o4 o5 o6 o7 : Option D} {w : List Int} {p : Fm} (hF : F.length < 60) (hw : w.length ≤ 9) (hn : ∀ s ∈ p.names, Nm s) (hl : (ownN p ns).length ≤ 10) (hl' : ns.length ≤ 10) (hS : S.length ≤ 1000) :
    evSs (cfN tab (k + 2)) w_b (env8 st.length f0 o4 o5 o6 o7) (stW st F ns ((w, p) :: S)) = some (.nx (env8 st.length f0 (some (.lst (p.parts.map Fm.d))) (some (.tup (w.map D.int))) (some p.d) o7), stW st (F ++ [p.d]) (ownN p ns) (kids w 0 p.parts ++ S)) := by
  have ha : evS (cfN tab (k + 2)) (.asg (.nm 4) (.call F_own_parts [(.var 6)])) (env8 st.length f0 o4 (some (.tup (w.map D.int))) (some p.d) o7) (stW st (F ++ [p.d]) (ownN p ns) S) = some (.nx (env8 st.length f0 (some (.lst (p.parts.map Fm.d))) (some (.tup (w.map D.int))) (some p.d) o7), stW st (F ++ [p.d]) (ownN p ns) S) := by
    have h := own_ok (k := k + 1) p (st := stW st (F ++ [p.d]) (ownN p ns) S)
    simp only [env8, x_var, x_con, x_glob, x_tup, x_lst, x_bin, x_neg, x_inv, x_cmp, x_not, x_ite, x_ix, x_sl, x_call, x_bi, x_Es0, x_Es1, x_O0, x_O1, x_C0, x_asg, x_par2, x_aug, x_if, x_ret, x_ex, x_never, x_Ss0, x_Ss1, R.bind_some, List.getElem?_cons_zero, List.getElem?_cons_succ, List.set_cons_zero, List.set_cons_succ, Option.map_some, List.map_cons, List.map_nil, List.replicate, List.cons_append, List.nil_append, List.append_nil, Nat.sub_self, asg_nm, asg_tup, asgs_nil, asgs_cons, List.length_cons, List.length_nil, rd'_int, rd'_str, rd'_tup, rd_lst', rd_bl, rd_non, rd_scr, t_bl, t_int, t_non, Nat.reduceAdd, Nat.reduceLT, reduceIte, and_self, h]
  rw [Ss_nx w_pop, Ss_nx (w_if1 hF hw hn), Ss_nx (w_if2 (by omega) p), Ss_nx (w_if3 hl), Ss_nx (w_app (by omega) (pl_fm p hn).clean), Ss_nx ha, Ss_nx (w_ext (by omega) hS hn), x_Ss0]
structure WI (L : List Str) (F : List D) (ns : List Str) (S : Stk) : Prop where
  nd : ns.Nodup
  nl : ∀ x ∈ ns, x ∈ L
  st : ∀ p ∈ S, p.1.length + p.2.deep ≤ 9 ∧ ∀ s ∈ p.2.names, Nm s ∧ s ∈ L
  pl : Pls 20 F
  sz : F.length + tot S ≤ 60
theorem w_step {L F ns S w p} (h : WI L F ns ((w, p) :: S)) : WI L (F ++ [p.d]) (ownN p ns) (kids w 0 p.parts ++ S) := by
  obtain ⟨hw, hn⟩ := h.st (w, p) List.mem_cons_self
  refine ⟨own_nodup h.nd, fun x hx => ?_, fun q hq => ?_, ?_, ?_⟩
  · rcases onm.mp (.inl hx) with h1 | h1
    · exact h.nl x h1
    · exact (hn x h1).2
  · rcases List.mem_append.mp hq with hq | hq
    · have h1 := kids_in hq
      have h2 := kids_way hq
      have h3 := part_deep h1
      have h4 : w.length + p.deep ≤ 9 := hw
      exact ⟨by omega, fun s hs => hn s (part_names h1 hs)⟩
    · exact h.st q (List.mem_cons_of_mem _ hq)
  · refine .of fun d hd => ?_
    rcases List.mem_append.mp hd with hd | hd
    · exact h.pl.mem d hd
    · rw [List.mem_singleton.mp hd]
      exact (pl_fm p fun s hs => (hn s hs).1).up (by have h4 : w.length + p.deep ≤ 9 := hw; omega)
  · have := h.sz
    have e : tot ((w, p) :: S) = p.size + tot S := rfl
    have := size_parts p
    rw [tot_app, kids_tot, List.length_append, List.length_singleton]
    omega
theorem w_loop {k : Nat} {st : Store} {L : List Str} (hL : L.length ≤ 10) {f0 : D} : ∀ (n : Nat) (F : List D) (ns : List Str) (S : Stk) (o4 o5 o6 o7 : Option D), tot S < n → WI L F ns S →
    ∃ F' ns' o4' o5' o6' o7', evWh (fun env st => R.bind (evE (cfN tab (k + 2)) w_c env st) fun x st => x.truth.map fun b => (b, st)) (fun env st => evSs (cfN tab (k + 2)) w_b env st) n (env8 st.length f0 o4 o5 o6 o7) (stW st F ns S)
      = some (.nx (env8 st.length f0 o4' o5' o6' o7'), stW st F' ns' []) ∧ WI L F' ns' [] ∧ ∀ x, x ∈ ns' ↔ (x ∈ ns ∨ ∃ p ∈ S, x ∈ p.2.names)
  | 0, _, _, _, _, _, _, _, h, _ => absurd h (Nat.not_lt_zero _)
  | n + 1, F, ns, [], o4, o5, o6, o7, h, w => by
    refine ⟨F, ns, o4, o5, o6, o7, ?_, w, fun x => by simp⟩
    rw [evWh, w_cond (fun p hp => by cases hp), R.bind_some, t_bl]
    rfl
  | n + 1, F, ns, (wy, p) :: S, o4, o5, o6, o7, h, w => by
    obtain ⟨hw, hn⟩ := w.st (wy, p) List.mem_cons_self
    have hw : wy.length + p.deep ≤ 9 := hw
    have e : tot ((wy, p) :: S) = p.size + tot S := rfl
    have hp := p.size_pos
    have hz := w.sz
    have hsp := size_parts p
    have hlen := tot_len S
    have w2 := w_step w
    obtain ⟨F', ns', o4', o5', o6', o7', h1, h2, h3⟩ := w_loop hL (f0 := f0) (k := k) (st := st) n (F ++ [p.d]) (ownN p ns) (kids wy 0 p.parts ++ S) (some (.lst (p.parts.map Fm.d))) (some (.tup (wy.map D.int))) (some p.d) o7 (by rw [tot_app, kids_tot]; omega) w2
    refine ⟨F', ns', o4', o5', o6', o7', ?_, h2, fun x => ?_⟩
    · rw [evWh, w_cond (fun q hq => ⟨by have := (w.st q hq).1; omega, fun s hs => ((w.st q hq).2 s hs).1⟩), R.bind_some, t_bl]
      rw [Option.map_some, R.bind_some, if_pos (by rfl), w_body (by omega) (by omega) (fun s hs => (hn s hs).1) (Nat.le_trans (nodup_len w2.nd w2.nl) hL) (Nat.le_trans (nodup_len w.nd w.nl) hL) (by omega), R.bind_some]
      exact h1
    · rw [h3]
      constructor
      · rintro (h | ⟨q, hq, hx⟩)
        · rcases onm.mp (.inl h) with h | h
          · exact .inl h
          · exact .inr ⟨_, List.mem_cons_self, h⟩
        · rcases List.mem_append.mp hq with hq | hq
          · exact .inr ⟨_, List.mem_cons_self, part_names (kids_in hq) hx⟩
          · exact .inr ⟨q, List.mem_cons_of_mem _ hq, hx⟩
      · rintro (h | ⟨q, hq, hx⟩)
        · rcases onm (p := p).mpr (.inl h) with h | ⟨g, hg, hx⟩
          · exact .inl h
          · obtain ⟨q, hq, rfl⟩ := parts_kids (w := wy) (i := 0) hg
            exact .inr ⟨q, List.mem_append.mpr (.inl hq), hx⟩
        · rcases List.mem_cons.mp hq with rfl | hq
          · rcases onm (ns := ns).mpr (.inr hx) with h | ⟨g, hg, hx⟩
            · exact .inl h
            · obtain ⟨q, hq, rfl⟩ := parts_kids (w := wy) (i := 0) hg
              exact .inr ⟨q, List.mem_append.mpr (.inl hq), hx⟩
          · exact .inr ⟨q, List.mem_append.mpr (.inr hq), hx⟩
theorem run_c {k i : Nat} {f : Fn} {ds : List D} {st st1 : Store} {d : D} (h : tab[i]? = some f) (hl : ds.length = f.np) (e : evSs (cfN tab k) f.body (ds.map some ++ List.replicate (f.nn - f.np) none) st = some (.rt d, st1)) (hd : d.clean = true) : cfN tab (k + 1) i ds st = some (d, st1.take st.length) := by
  rw [run_def h]
  unfold runF
  rw [if_pos hl, e]
  show retOf _ _ _ = _
  unfold retOf
  rw [if_pos (D.und_clean _ hd)]
structure FmOk (f : Fm) (L : List Str) : Prop where
  len : L.length ≤ 10
  deep : f.deep ≤ 9
  size : f.size ≤ 60
  nm : ∀ s ∈ f.names, Nm s
  sub : ∀ s ∈ f.names, s ∈ L
theorem walked_ok {k : Nat} {st : Store} {f : Fm} {L : List Str} (h : FmOk f L) : ∃ (F : List D) (ns : List Str), cfN tab (k + 3) F_walked [f.d] st = some (.tup [.lst F, .lst (ns.map D.str)], st) ∧ ns.Nodup ∧ (∀ x, x ∈ ns ↔ x ∈ f.names) := by
  have pf := pl_fm f h.nm
  have w0 : WI L [] [] [([], f)] := ⟨by simp, by simp, fun p hp => by
    rw [List.mem_singleton.mp hp]
    exact ⟨by have := h.deep; simpa using this, fun s hs => ⟨h.nm s hs, h.sub s hs⟩⟩, .nil _, by have := h.size; simpa [tot] using this⟩
  obtain ⟨F', ns', o4, o5, o6, o7, h1, h2, h3⟩ := w_loop h.len (k := k) (st := st) (f0 := f.d) FU [] [] [([], f)] none none none none (by
    have := h.size
    show f.size + 0 < FU
    unfold FU
    omega) w0
  refine ⟨F', ns', ?_, h2.nd, fun x => by rw [h3]; simp⟩
  have e : evSs (cfN tab (k + 2)) ir_walked.body ([f.d].map some ++ List.replicate (ir_walked.nn - ir_walked.np) none) st = some (.rt (.tup [.lst F', .lst (ns'.map D.str)]), (stW st F' ns' []).set st.length .dead) := by
    have s1 : evS (cfN tab (k + 2)) (.par2 2 3 (.nlst []) (.ndic [] [])) [some f.d, none, none, none, none, none, none, none] st = some (.nx [some f.d, none, some (.ref st.length), some (.ref (st.length + 1)), none, none, none, none], st ++ [.lst [], .dK []]) := by
      rw [x_par2, x_nlst, x_Es0, R.bind_some, if_pos (by rfl), R.bind_some, x_ndic, x_Es0, R.bind_some, if_pos (by rfl), R.bind_some, List.length_append, List.append_assoc]
      rfl
    have s2 : evS (cfN tab (k + 2)) (.asg (.nm 1) (.nlst [(.tup [(.tup []), (.var 0)])])) [some f.d, none, some (.ref st.length), some (.ref (st.length + 1)), none, none, none, none] (st ++ [.lst [], .dK []]) = some (.nx (env8 st.length f.d none none none none), stW st [] [] [([], f)]) := by
      have e1 : evEs (cfN tab (k + 2)) [(.tup [(.tup []), (.var 0)])] [some f.d, none, some (.ref st.length), some (.ref (st.length + 1)), none, none, none, none] (st ++ [.lst [], .dK []]) = some ([.tup [.tup [], f.d]], st ++ [.lst [], .dK []]) := by
        simp only [x_var, x_con, x_glob, x_tup, x_lst, x_bin, x_neg, x_inv, x_cmp, x_not, x_ite, x_ix, x_sl, x_call, x_bi, x_Es0, x_Es1, x_O0, x_O1, x_C0, x_asg, x_par2, x_aug, x_if, x_ret, x_ex, x_never, x_Ss0, x_Ss1, R.bind_some, List.getElem?_cons_zero, List.getElem?_cons_succ, List.set_cons_zero, List.set_cons_succ, Option.map_some, List.map_cons, List.map_nil, List.replicate, List.cons_append, List.nil_append, List.append_nil, Nat.sub_self, asg_nm, asg_tup, asgs_nil, asgs_cons, List.length_cons, List.length_nil, rd'_int, rd'_str, rd'_tup, rd_lst', rd_bl, rd_non, rd_scr, t_bl, t_int, t_non, Nat.reduceAdd, Nat.reduceLT, reduceIte, and_self]
      have e2 : D.unds (st ++ [MO.lst [], MO.dK []]).length [.tup [.tup [], f.d]] = true := by
        simp only [D.unds, D.und, D.und_clean _ pf.clean, Bool.and_self]
      rw [x_asg, x_nlst, e1, R.bind_some, if_pos e2, R.bind_some, List.length_append, List.append_assoc]
      rfl
    have s4 : evS (cfN tab (k + 2)) (.frz 2) (env8 st.length f.d o4 o5 o6 o7) (stW st F' ns' []) = some (.nx [some f.d, some (.ref (st.length + 2)), some (.lst F'), some (.ref (st.length + 1)), o4, o5, o6, o7], st ++ [.dead, .dK (ns'.map kvD), .lst []]) := by
      rw [x_frz]
      unfold stW
      simp only [env8, List.getElem?_cons_succ, List.getElem?_cons_zero, s3_0, s3_s0]
      rfl
    have s5 : evS (cfN tab (k + 2)) (.ret (.tup [(.var 2), (.bi .list [(.var 3)])])) [some f.d, some (.ref (st.length + 2)), some (.lst F'), some (.ref (st.length + 1)), o4, o5, o6, o7] (st ++ [.dead, .dK (ns'.map kvD), .lst []]) = some (.rt (.tup [.lst F', .lst (ns'.map D.str)]), st ++ [.dead, .dK (ns'.map kvD), .lst []]) := by
      have e1 : (ns'.map kvD).map (fun p => keyD p.1) = ns'.map D.str := by
        rw [List.map_map]
        rfl
      have e2 : D.cleans (ns'.map D.str) = true := Pls.cleans (n := 0) (.of fun d hd => by
        obtain ⟨s, hs, rfl⟩ := List.mem_map.mp hd
        exact .str _ ((h.nm s (by simpa using (h3 s).mp hs))).ok)
      have e3 : biD .list [.ref (st.length + 1)] (st ++ [.dead, .dK (ns'.map kvD), .lst []]) = some (.lst (ns'.map D.str), st ++ [.dead, .dK (ns'.map kvD), .lst []]) := by
        simp only [biD, s3_1, e1, e2, if_true]
      simp only [x_var, x_con, x_glob, x_tup, x_lst, x_bin, x_neg, x_inv, x_cmp, x_not, x_ite, x_ix, x_sl, x_call, x_bi, x_Es0, x_Es1, x_O0, x_O1, x_C0, x_asg, x_par2, x_aug, x_if, x_ret, x_ex, x_never, x_Ss0, x_Ss1, R.bind_some, List.getElem?_cons_zero, List.getElem?_cons_succ, List.set_cons_zero, List.set_cons_succ, Option.map_some, List.map_cons, List.map_nil, List.replicate, List.cons_append, List.nil_append, List.append_nil, Nat.sub_self, asg_nm, asg_tup, asgs_nil, asgs_cons, List.length_cons, List.length_nil, rd'_int, rd'_str, rd'_tup, rd_lst', rd_bl, rd_non, rd_scr, t_bl, t_int, t_non, Nat.reduceAdd, Nat.reduceLT, reduceIte, and_self, e3]
    show evSs (cfN tab (k + 2)) (.par2 2 3 (.nlst []) (.ndic [] []) :: .asg (.nm 1) (.nlst [(.tup [(.tup []), (.var 0)])]) :: .while_ w_c w_b :: .frz 2 :: .ret (.tup [(.var 2), (.bi .list [(.var 3)])]) :: []) [some f.d, none, none, none, none, none, none, none] st = _
    rw [Ss_nx s1, Ss_nx s2, Ss_nx (by rw [x_while]; exact h1), Ss_nx s4, Ss_rt s5]
    unfold stW
    rw [s3_s0]
    rfl
  have u : D.clean (.tup [.lst F', .lst (ns'.map D.str)]) = true := by
    have e2 : D.cleans (ns'.map D.str) = true := Pls.cleans (n := 0) (.of fun d hd => by
        obtain ⟨s, hs, rfl⟩ := List.mem_map.mp hd
        exact .str _ ((h.nm s (by simpa using (h3 s).mp hs))).ok)
    simp only [D.clean, D.cleans, h2.pl.cleans, e2, Bool.and_self]
  rw [run_c (f := ir_walked) rfl rfl e u]
  unfold stW
  rw [s3_s0, List.take_left' rfl]
end Kw

set_option Elab.async false
set_option linter.all false
set_option maxRecDepth 100000
set_option maxHeartbeats 2000000
/-! Law k03: names_in, need_order, is_yes, rows_of. -/
namespace Kw
open PySem
theorem cutT {α : Type} (xs : List α) {i : Nat} (h : i ≤ xs.length) : cutL xs none (some (i : Int)) = xs.take i := by
  unfold cutL
  rw [show HT.sIx xs.length xs.length (some (i : Int)) = min i xs.length from HT.sIx_nat xs.length xs.length i, HT.sIx_none, Nat.min_eq_left h]
  rfl
theorem pow_len {n : Nat} (h : n ≤ 10) : n ≤ 100 := by omega
structure OrdOk (L : List Str) : Prop where
  len : L.length ≤ 10
  nd : L.Nodup
  nm : ∀ s ∈ L, Nm s
theorem OrdOk.ok {L} (h : OrdOk L) : ∀ s ∈ L, okS s := fun s hs => (h.nm s hs).ok
section
variable {k : Nat} {st : Store} {f : Fm} {L : List Str}
theorem names_in_ok (h : FmOk f L) : ∃ ns : List Str, cfN tab (k + 4) F_names_in [f.d] st = some (nmD ns, st) ∧ ns.Nodup ∧ (∀ x, x ∈ ns ↔ x ∈ f.names) := by
  obtain ⟨F, ns, h1, h2, h3⟩ := walked_ok (k := k) (st := st) h
  refine ⟨ns, run_rt rfl rfl ?_, h2, h3⟩
  simp only [ir_names_in, x_var, x_con, x_glob, x_tup, x_lst, x_bin, x_neg, x_inv, x_cmp, x_not, x_ite, x_ix, x_sl, x_call, x_bi, x_Es0, x_Es1, x_O0, x_O1, x_C0, x_asg, x_par2, x_aug, x_if, x_ret, x_ex, x_never, x_Ss0, x_Ss1, R.bind_some, List.getElem?_cons_zero, List.getElem?_cons_succ, List.set_cons_zero, List.set_cons_succ, Option.map_some, List.map_cons, List.map_nil, List.replicate, List.cons_append, List.nil_append, List.append_nil, Nat.sub_self, asg_nm, asg_tup, asgs_nil, asgs_cons, List.length_cons, List.length_nil, rd'_int, rd'_str, rd'_tup, rd_lst', rd_bl, rd_non, rd_scr, t_bl, t_int, t_non, Nat.reduceAdd, Nat.reduceLT, reduceIte, and_self, h1, nmD]
theorem order_loop (h : OrdOk L) {cf : CF} (hc : ∀ s ∈ L, cf F_is_name [.str s] st = some (.bl true, st)) : ∀ (pre rest : List Str) (o1 o2 : Option D), L = pre ++ rest →
    ∃ env', evFor (.tup [1, 2]) (fun env st => evSs cf [.if_ (.or [(.not (.call F_is_name [(.var 2)])), (.cmp .In (.var 2) (.sl (.var 0) none (some (.var 1))))]) [.never] []] env st) (enumD pre.length (rest.map D.str)) [some (rowD L), o1, o2] st = some (.nx (some (rowD L) :: env'), st)
  | pre, [], o1, o2, e => ⟨_, rfl⟩
  | pre, s :: rest, o1, o2, e => by
    obtain ⟨env', ih⟩ := order_loop h hc (pre ++ [s]) rest (some (.int pre.length)) (some (.str s)) (by rw [e, List.append_assoc]; rfl)
    refine ⟨env', ?_⟩
    have hs : s ∈ L := by rw [e]; simp
    have hp : s ∉ pre := by
      have := h.nd
      rw [e] at this
      exact fun hq => (List.nodup_append.mp this).2.2 s hq s List.mem_cons_self rfl
    have c1 := hc s hs
    have sl : slD (rowD L) none (some (pre.length : Int)) = some (.tup (pre.map D.str)) := by
      show some (D.tup (cutL _ _ _)) = _
      rw [cutT _ (by rw [List.length_map, e]; simp), e, List.map_append, List.take_left' (by simp)]
    have c2 : cmpD .In st (.str s) (.tup (pre.map D.str)) = some false := by
      rw [(in_strs (h.ok s hs) (fun x hx => h.ok x (by rw [e]; simp [hx]))).1, decide_eq_false hp]
    have b : evSs cf [.if_ (.or [(.not (.call F_is_name [(.var 2)])), (.cmp .In (.var 2) (.sl (.var 0) none (some (.var 1))))]) [.never] []] [some (rowD L), some (.int pre.length), some (.str s)] st = some (.nx [some (rowD L), some (.int pre.length), some (.str s)], st) := by
      have o : evE cf (.or [(.not (.call F_is_name [(.var 2)])), (.cmp .In (.var 2) (.sl (.var 0) none (some (.var 1))))]) [some (rowD L), some (.int pre.length), some (.str s)] st = some (.bl false, st) := by
        rw [x_or, evOr]
        simp only [x_var, x_con, x_glob, x_tup, x_lst, x_bin, x_neg, x_inv, x_cmp, x_not, x_ite, x_ix, x_sl, x_call, x_bi, x_Es0, x_Es1, x_O0, x_O1, x_C0, x_asg, x_par2, x_aug, x_if, x_ret, x_ex, x_never, x_Ss0, x_Ss1, R.bind_some, List.getElem?_cons_zero, List.getElem?_cons_succ, List.set_cons_zero, List.set_cons_succ, Option.map_some, List.map_cons, List.map_nil, List.replicate, List.cons_append, List.nil_append, List.append_nil, Nat.sub_self, asg_nm, asg_tup, asgs_nil, asgs_cons, List.length_cons, List.length_nil, rd'_int, rd'_str, rd'_tup, rd_lst', rd_bl, rd_non, rd_scr, t_bl, t_int, t_non, Nat.reduceAdd, Nat.reduceLT, reduceIte, and_self, c1, Bool.not_true]
        rw [x_or1]
        simp only [x_var, x_con, x_glob, x_tup, x_lst, x_bin, x_neg, x_inv, x_cmp, x_not, x_ite, x_ix, x_sl, x_call, x_bi, x_Es0, x_Es1, x_O0, x_O1, x_C0, x_asg, x_par2, x_aug, x_if, x_ret, x_ex, x_never, x_Ss0, x_Ss1, R.bind_some, List.getElem?_cons_zero, List.getElem?_cons_succ, List.set_cons_zero, List.set_cons_succ, Option.map_some, List.map_cons, List.map_nil, List.replicate, List.cons_append, List.nil_append, List.append_nil, Nat.sub_self, asg_nm, asg_tup, asgs_nil, asgs_cons, List.length_cons, List.length_nil, rd'_int, rd'_str, rd'_tup, rd_lst', rd_bl, rd_non, rd_scr, t_bl, t_int, t_non, Nat.reduceAdd, Nat.reduceLT, reduceIte, and_self, show rd st (rowD L) = rowD L from rfl, sl, c2]
      simp only [x_var, x_con, x_glob, x_tup, x_lst, x_bin, x_neg, x_inv, x_cmp, x_not, x_ite, x_ix, x_sl, x_call, x_bi, x_Es0, x_Es1, x_O0, x_O1, x_C0, x_asg, x_par2, x_aug, x_if, x_ret, x_ex, x_never, x_Ss0, x_Ss1, R.bind_some, List.getElem?_cons_zero, List.getElem?_cons_succ, List.set_cons_zero, List.set_cons_succ, Option.map_some, List.map_cons, List.map_nil, List.replicate, List.cons_append, List.nil_append, List.append_nil, Nat.sub_self, asg_nm, asg_tup, asgs_nil, asgs_cons, List.length_cons, List.length_nil, rd'_int, rd'_str, rd'_tup, rd_lst', rd_bl, rd_non, rd_scr, t_bl, t_int, t_non, Nat.reduceAdd, Nat.reduceLT, reduceIte, and_self, o]
    rw [List.map_cons, enumD, evFor]
    show R.bind (evSs cf _ [some (rowD L), some (.int pre.length), some (.str s)] st) _ = _
    rw [b, R.bind_some]
    rw [List.length_append] at ih
    exact ih
theorem need_order_ok (h : OrdOk L) : cfN tab (k + 2) F_need_order [rowD L] st = some (rowD L, st) := by
  refine run_rt rfl rfl ?_
  obtain ⟨env', hl⟩ := order_loop (st := st) h (cf := cfN tab (k + 1)) (fun s hs => is_name_ok (h.nm s hs)) [] L none none rfl
  have s1 : evS (cfN tab (k + 1)) (.if_ (.or [(.not (.bi (.isinst "tuple") [(.var 0)])), (.cmp .Gt (.bi .len [(.var 0)]) (.glob "MOST_NAMES" (.int 10)))]) [.never] []) [some (rowD L), none, none] st = some (.nx [some (rowD L), none, none], st) := by
    have c1 : cmpD .Gt st (.int L.length) (.int 10) = some false := by rw [cmp_gt, decide_eq_false (by have := h.len; omega)]
    have e2 : biD (.isinst "tuple") [rowD L] st = some (.bl true, st) := rfl
    have o : evE (cfN tab (k + 1)) (.or [(.not (.bi (.isinst "tuple") [(.var 0)])), (.cmp .Gt (.bi .len [(.var 0)]) (.glob "MOST_NAMES" (.int 10)))]) [some (rowD L), none, none] st = some (.bl false, st) := by
      rw [x_or, evOr]
      simp only [x_var, x_con, x_glob, x_tup, x_lst, x_bin, x_neg, x_inv, x_cmp, x_not, x_ite, x_ix, x_sl, x_call, x_bi, x_Es0, x_Es1, x_O0, x_O1, x_C0, x_asg, x_par2, x_aug, x_if, x_ret, x_ex, x_never, x_Ss0, x_Ss1, R.bind_some, List.getElem?_cons_zero, List.getElem?_cons_succ, List.set_cons_zero, List.set_cons_succ, Option.map_some, List.map_cons, List.map_nil, List.replicate, List.cons_append, List.nil_append, List.append_nil, Nat.sub_self, asg_nm, asg_tup, asgs_nil, asgs_cons, List.length_cons, List.length_nil, rd'_int, rd'_str, rd'_tup, rd_lst', rd_bl, rd_non, rd_scr, t_bl, t_int, t_non, Nat.reduceAdd, Nat.reduceLT, reduceIte, and_self, e2, Bool.not_true]
      rw [x_or1]
      simp only [x_var, x_con, x_glob, x_tup, x_lst, x_bin, x_neg, x_inv, x_cmp, x_not, x_ite, x_ix, x_sl, x_call, x_bi, x_Es0, x_Es1, x_O0, x_O1, x_C0, x_asg, x_par2, x_aug, x_if, x_ret, x_ex, x_never, x_Ss0, x_Ss1, R.bind_some, List.getElem?_cons_zero, List.getElem?_cons_succ, List.set_cons_zero, List.set_cons_succ, Option.map_some, List.map_cons, List.map_nil, List.replicate, List.cons_append, List.nil_append, List.append_nil, Nat.sub_self, asg_nm, asg_tup, asgs_nil, asgs_cons, List.length_cons, List.length_nil, rd'_int, rd'_str, rd'_tup, rd_lst', rd_bl, rd_non, rd_scr, t_bl, t_int, t_non, Nat.reduceAdd, Nat.reduceLT, reduceIte, and_self, len_row, c1]
    simp only [x_var, x_con, x_glob, x_tup, x_lst, x_bin, x_neg, x_inv, x_cmp, x_not, x_ite, x_ix, x_sl, x_call, x_bi, x_Es0, x_Es1, x_O0, x_O1, x_C0, x_asg, x_par2, x_aug, x_if, x_ret, x_ex, x_never, x_Ss0, x_Ss1, R.bind_some, List.getElem?_cons_zero, List.getElem?_cons_succ, List.set_cons_zero, List.set_cons_succ, Option.map_some, List.map_cons, List.map_nil, List.replicate, List.cons_append, List.nil_append, List.append_nil, Nat.sub_self, asg_nm, asg_tup, asgs_nil, asgs_cons, List.length_cons, List.length_nil, rd'_int, rd'_str, rd'_tup, rd_lst', rd_bl, rd_non, rd_scr, t_bl, t_int, t_non, Nat.reduceAdd, Nat.reduceLT, reduceIte, and_self, o]
  have s2 : evS (cfN tab (k + 1)) (.for_ (.tup [1, 2]) (.enum (.var 0)) [.if_ (.or [(.not (.call F_is_name [(.var 2)])), (.cmp .In (.var 2) (.sl (.var 0) none (some (.var 1))))]) [.never] []]) [some (rowD L), none, none] st = some (.nx (some (rowD L) :: env'), st) := by
    have i1 : evI (cfN tab (k + 1)) (.enum (.var 0)) [some (rowD L), none, none] st = some (enumD 0 (L.map D.str), st) := by
      rw [x_enum]
      simp only [x_var, x_con, x_glob, x_tup, x_lst, x_bin, x_neg, x_inv, x_cmp, x_not, x_ite, x_ix, x_sl, x_call, x_bi, x_Es0, x_Es1, x_O0, x_O1, x_C0, x_asg, x_par2, x_aug, x_if, x_ret, x_ex, x_never, x_Ss0, x_Ss1, R.bind_some, List.getElem?_cons_zero, List.getElem?_cons_succ, List.set_cons_zero, List.set_cons_succ, Option.map_some, List.map_cons, List.map_nil, List.replicate, List.cons_append, List.nil_append, List.append_nil, Nat.sub_self, asg_nm, asg_tup, asgs_nil, asgs_cons, List.length_cons, List.length_nil, rd'_int, rd'_str, rd'_tup, rd_lst', rd_bl, rd_non, rd_scr, t_bl, t_int, t_non, Nat.reduceAdd, Nat.reduceLT, reduceIte, and_self, rowD]
    rw [x_for, i1, R.bind_some]
    exact hl
  show evSs (cfN tab (k + 1)) [_, _, _] [some (rowD L), none, none] st = _
  rw [Ss_nx s1, Ss_nx s2]
  exact Ss_rt (by simp only [x_var, x_con, x_glob, x_tup, x_lst, x_bin, x_neg, x_inv, x_cmp, x_not, x_ite, x_ix, x_sl, x_call, x_bi, x_Es0, x_Es1, x_O0, x_O1, x_C0, x_asg, x_par2, x_aug, x_if, x_ret, x_ex, x_never, x_Ss0, x_Ss1, R.bind_some, List.getElem?_cons_zero, List.getElem?_cons_succ, List.set_cons_zero, List.set_cons_succ, Option.map_some, List.map_cons, List.map_nil, List.replicate, List.cons_append, List.nil_append, List.append_nil, Nat.sub_self, asg_nm, asg_tup, asgs_nil, asgs_cons, List.length_cons, List.length_nil, rd'_int, rd'_str, rd'_tup, rd_lst', rd_bl, rd_non, rd_scr, t_bl, t_int, t_non, Nat.reduceAdd, Nat.reduceLT, reduceIte, and_self])
theorem is_yes_ok (h : FmOk f L) (ho : OrdOk L) {r : List Str} (hr : ∀ s ∈ r, Nm s) (hp : r.Pairwise fun a b => leD (.str a) (.str b) = true) (hn : r.Nodup) (hl : r.length ≤ 100) (hk : f.deep + 4 ≤ k) :
    cfN tab (k + 4) F_is_yes [f.d, rowD r] st = some (.bl (rowOk f r), st) := by
  obtain ⟨ns, h1, h2, h3⟩ := names_in_ok (k := k - 1) (st := st) h
  rw [show k - 1 + 4 = k + 3 by omega] at h1
  have hns : ∀ x ∈ ns, Nm x := fun x hx => h.nm x ((h3 x).mp hx)
  have hnl : ns.length ≤ 10 := Nat.le_trans (nodup_len h2 fun x hx => h.sub x ((h3 x).mp hx)) h.len
  obtain ⟨T, t1, t2, t3⟩ := truths_ok hnl (fun x hx => (hns x hx).ok) f (fun x hx => (h3 x).mpr hx) (k + 3) (by omega) st
  have c1 := is_row_ok (k := k + 1) (st := st) hr hp hn hl
  have c2 := number_ok (k := k + 2) (st := st) hnl (fun x hx => (hns x hx).ok) (r := r) (fun x hx => (hr x hx).ok)
  have e : T.testBit (num r ns) = rowOk f r := by
    rw [t3 _ (num_lt r ns)]
    refine Fm.ev_congr f fun x hx => ?_
    have hx' := (h3 x).mpr hx
    rw [num_bit r ns (ns.idxOf x) x (by rw [List.getElem?_eq_getElem (List.idxOf_lt_length_iff.mpr hx'), List.getElem_idxOf])]
  have c3 : cmpD .Eq st (.int ((T >>> num r ns &&& 1 : Nat) : Int)) (.int 1) = some (rowOk f r) := by
    rw [cmp_ii, ← e]
    congr 1
    rw [Nat.testBit, Bool.eq_iff_iff, decide_eq_true_eq, bne_iff_ne]
    rw [Nat.and_comm]
    have := Nat.and_le_left (n := 1) (m := T >>> num r ns)
    omega
  refine run_rt rfl rfl ?_
  show evSs (cfN tab (k + 3)) [_, _, _] [some f.d, some (rowD r), none] st = _
  have s1 : evS (cfN tab (k + 3)) (.asg (.nm 2) (.call F_names_in [(.var 0)])) [some f.d, some (rowD r), none] st = some (.nx [some f.d, some (rowD r), some (nmD ns)], st) := by
    simp only [x_var, x_con, x_glob, x_tup, x_lst, x_bin, x_neg, x_inv, x_cmp, x_not, x_ite, x_ix, x_sl, x_call, x_bi, x_Es0, x_Es1, x_O0, x_O1, x_C0, x_asg, x_par2, x_aug, x_if, x_ret, x_ex, x_never, x_Ss0, x_Ss1, R.bind_some, List.getElem?_cons_zero, List.getElem?_cons_succ, List.set_cons_zero, List.set_cons_succ, Option.map_some, List.map_cons, List.map_nil, List.replicate, List.cons_append, List.nil_append, List.append_nil, Nat.sub_self, asg_nm, asg_tup, asgs_nil, asgs_cons, List.length_cons, List.length_nil, rd'_int, rd'_str, rd'_tup, rd_lst', rd_bl, rd_non, rd_scr, t_bl, t_int, t_non, Nat.reduceAdd, Nat.reduceLT, reduceIte, and_self, h1]
  have s2 : evS (cfN tab (k + 3)) (.if_ (.not (.call F_is_row [(.var 1)])) [.never] []) [some f.d, some (rowD r), some (nmD ns)] st = some (.nx [some f.d, some (rowD r), some (nmD ns)], st) := by
    simp only [x_var, x_con, x_glob, x_tup, x_lst, x_bin, x_neg, x_inv, x_cmp, x_not, x_ite, x_ix, x_sl, x_call, x_bi, x_Es0, x_Es1, x_O0, x_O1, x_C0, x_asg, x_par2, x_aug, x_if, x_ret, x_ex, x_never, x_Ss0, x_Ss1, R.bind_some, List.getElem?_cons_zero, List.getElem?_cons_succ, List.set_cons_zero, List.set_cons_succ, Option.map_some, List.map_cons, List.map_nil, List.replicate, List.cons_append, List.nil_append, List.append_nil, Nat.sub_self, asg_nm, asg_tup, asgs_nil, asgs_cons, List.length_cons, List.length_nil, rd'_int, rd'_str, rd'_tup, rd_lst', rd_bl, rd_non, rd_scr, t_bl, t_int, t_non, Nat.reduceAdd, Nat.reduceLT, reduceIte, and_self, c1, Bool.not_true]
  rw [Ss_nx s1, Ss_nx s2]
  refine Ss_rt ?_
  simp only [x_var, x_con, x_glob, x_tup, x_lst, x_bin, x_neg, x_inv, x_cmp, x_not, x_ite, x_ix, x_sl, x_call, x_bi, x_Es0, x_Es1, x_O0, x_O1, x_C0, x_asg, x_par2, x_aug, x_if, x_ret, x_ex, x_never, x_Ss0, x_Ss1, R.bind_some, List.getElem?_cons_zero, List.getElem?_cons_succ, List.set_cons_zero, List.set_cons_succ, Option.map_some, List.map_cons, List.map_nil, List.replicate, List.cons_append, List.nil_append, List.append_nil, Nat.sub_self, asg_nm, asg_tup, asgs_nil, asgs_cons, List.length_cons, List.length_nil, rd'_int, rd'_str, rd'_tup, rd_lst', rd_bl, rd_non, rd_scr, t_bl, t_int, t_non, Nat.reduceAdd, Nat.reduceLT, reduceIte, and_self, t1, intD, c2, d_shr, d_and1, c3]
theorem member_loop {cf : CF} (ho : OrdOk L) {f0 : D} {o2 : Option D} : ∀ (ns : List Str) (o3 : Option D), (∀ x ∈ ns, x ∈ L) →
    ∃ o3', evFor (.nm 3) (fun env st => evSs cf [.if_ (.cmp .NotIn (.var 3) (.var 1)) [.never] []] env st) (ns.map D.str) [some f0, some (rowD L), o2, o3] st = some (.nx [some f0, some (rowD L), o2, o3'], st)
  | [], o3, _ => ⟨o3, rfl⟩
  | s :: ns, o3, h => by
    obtain ⟨o3', ih⟩ := member_loop ho ns (some (.str s)) fun x hx => h x (List.mem_cons_of_mem _ hx)
    refine ⟨o3', ?_⟩
    have hs := h s List.mem_cons_self
    have c : cmpD .NotIn st (.str s) (rowD L) = some false := by
      rw [show rowD L = .tup (L.map D.str) from rfl, (in_strs (ho.ok s hs) ho.ok).2.2.1, decide_eq_true hs]
      rfl
    have b : evSs cf [.if_ (.cmp .NotIn (.var 3) (.var 1)) [.never] []] [some f0, some (rowD L), o2, some (.str s)] st = some (.nx [some f0, some (rowD L), o2, some (.str s)], st) := by
      simp only [x_var, x_con, x_glob, x_tup, x_lst, x_bin, x_neg, x_inv, x_cmp, x_not, x_ite, x_ix, x_sl, x_call, x_bi, x_Es0, x_Es1, x_O0, x_O1, x_C0, x_asg, x_par2, x_aug, x_if, x_ret, x_ex, x_never, x_Ss0, x_Ss1, R.bind_some, List.getElem?_cons_zero, List.getElem?_cons_succ, List.set_cons_zero, List.set_cons_succ, Option.map_some, List.map_cons, List.map_nil, List.replicate, List.cons_append, List.nil_append, List.append_nil, Nat.sub_self, asg_nm, asg_tup, asgs_nil, asgs_cons, List.length_cons, List.length_nil, rd'_int, rd'_str, rd'_tup, rd_lst', rd_bl, rd_non, rd_scr, t_bl, t_int, t_non, Nat.reduceAdd, Nat.reduceLT, reduceIte, and_self, c]
    rw [List.map_cons, evFor]
    show R.bind (evSs cf _ [some f0, some (rowD L), o2, some (.str s)] st) _ = _
    rw [b, R.bind_some]
    exact ih
theorem rows_of_ok (h : FmOk f L) (ho : OrdOk L) (hk : f.deep + 4 ≤ k) : cfN tab (k + 4) F_rows_of [f.d, rowD L] st = some (.lst (((srtR (subsL (srt L))).filter (rowOk f)).map rowD), st) := by
  obtain ⟨ns, h1, h2, h3⟩ := names_in_ok (k := k - 1) (st := st) h
  rw [show k - 1 + 4 = k + 3 by omega] at h1
  obtain ⟨T, t1, t2⟩ := truths_ok ho.len ho.ok f h.sub (k + 3) (by omega) st
  have c1 := need_order_ok (k := k + 1) (st := st) ho
  have c2 := rows_in_ok (k := k + 1) (st := st) ho.len ho.ok (T := T)
  rw [rows_same ho.nd t2] at c2
  obtain ⟨o3, hl⟩ := member_loop (st := st) (cf := cfN tab (k + 3)) ho (f0 := f.d) (o2 := some (nmD ns)) ns none fun x hx => h.sub x ((h3 x).mp hx)
  refine run_rt rfl rfl ?_
  show evSs (cfN tab (k + 3)) [_, _, _, _] [some f.d, some (rowD L), none, none] st = _
  have s1 : evS (cfN tab (k + 3)) (.asg (.nm 2) (.call F_names_in [(.var 0)])) [some f.d, some (rowD L), none, none] st = some (.nx [some f.d, some (rowD L), some (nmD ns), none], st) := by
    simp only [x_var, x_con, x_glob, x_tup, x_lst, x_bin, x_neg, x_inv, x_cmp, x_not, x_ite, x_ix, x_sl, x_call, x_bi, x_Es0, x_Es1, x_O0, x_O1, x_C0, x_asg, x_par2, x_aug, x_if, x_ret, x_ex, x_never, x_Ss0, x_Ss1, R.bind_some, List.getElem?_cons_zero, List.getElem?_cons_succ, List.set_cons_zero, List.set_cons_succ, Option.map_some, List.map_cons, List.map_nil, List.replicate, List.cons_append, List.nil_append, List.append_nil, Nat.sub_self, asg_nm, asg_tup, asgs_nil, asgs_cons, List.length_cons, List.length_nil, rd'_int, rd'_str, rd'_tup, rd_lst', rd_bl, rd_non, rd_scr, t_bl, t_int, t_non, Nat.reduceAdd, Nat.reduceLT, reduceIte, and_self, h1]
  have s2 : evS (cfN tab (k + 3)) (.ex (.call F_need_order [(.var 1)])) [some f.d, some (rowD L), some (nmD ns), none] st = some (.nx [some f.d, some (rowD L), some (nmD ns), none], st) := by
    simp only [x_var, x_con, x_glob, x_tup, x_lst, x_bin, x_neg, x_inv, x_cmp, x_not, x_ite, x_ix, x_sl, x_call, x_bi, x_Es0, x_Es1, x_O0, x_O1, x_C0, x_asg, x_par2, x_aug, x_if, x_ret, x_ex, x_never, x_Ss0, x_Ss1, R.bind_some, List.getElem?_cons_zero, List.getElem?_cons_succ, List.set_cons_zero, List.set_cons_succ, Option.map_some, List.map_cons, List.map_nil, List.replicate, List.cons_append, List.nil_append, List.append_nil, Nat.sub_self, asg_nm, asg_tup, asgs_nil, asgs_cons, List.length_cons, List.length_nil, rd'_int, rd'_str, rd'_tup, rd_lst', rd_bl, rd_non, rd_scr, t_bl, t_int, t_non, Nat.reduceAdd, Nat.reduceLT, reduceIte, and_self, c1]
  have s3 : evS (cfN tab (k + 3)) (.for_ (.nm 3) (.seq (.var 2)) [.if_ (.cmp .NotIn (.var 3) (.var 1)) [.never] []]) [some f.d, some (rowD L), some (nmD ns), none] st = some (.nx [some f.d, some (rowD L), some (nmD ns), o3], st) := by
    have i1 : evI (cfN tab (k + 3)) (.seq (.var 2)) [some f.d, some (rowD L), some (nmD ns), none] st = some (ns.map D.str, st) := by
      rw [x_seq]
      simp only [x_var, x_con, x_glob, x_tup, x_lst, x_bin, x_neg, x_inv, x_cmp, x_not, x_ite, x_ix, x_sl, x_call, x_bi, x_Es0, x_Es1, x_O0, x_O1, x_C0, x_asg, x_par2, x_aug, x_if, x_ret, x_ex, x_never, x_Ss0, x_Ss1, R.bind_some, List.getElem?_cons_zero, List.getElem?_cons_succ, List.set_cons_zero, List.set_cons_succ, Option.map_some, List.map_cons, List.map_nil, List.replicate, List.cons_append, List.nil_append, List.append_nil, Nat.sub_self, asg_nm, asg_tup, asgs_nil, asgs_cons, List.length_cons, List.length_nil, rd'_int, rd'_str, rd'_tup, rd_lst', rd_bl, rd_non, rd_scr, t_bl, t_int, t_non, Nat.reduceAdd, Nat.reduceLT, reduceIte, and_self, nmD, itemsOf]
    rw [x_for, i1, R.bind_some]
    exact hl
  rw [Ss_nx s1, Ss_nx s2, Ss_nx s3]
  refine Ss_rt ?_
  have e : biD .list [rowD L] st = some (nmD L, st) := rfl
  simp only [x_var, x_con, x_glob, x_tup, x_lst, x_bin, x_neg, x_inv, x_cmp, x_not, x_ite, x_ix, x_sl, x_call, x_bi, x_Es0, x_Es1, x_O0, x_O1, x_C0, x_asg, x_par2, x_aug, x_if, x_ret, x_ex, x_never, x_Ss0, x_Ss1, R.bind_some, List.getElem?_cons_zero, List.getElem?_cons_succ, List.set_cons_zero, List.set_cons_succ, Option.map_some, List.map_cons, List.map_nil, List.replicate, List.cons_append, List.nil_append, List.append_nil, Nat.sub_self, asg_nm, asg_tup, asgs_nil, asgs_cons, List.length_cons, List.length_nil, rd'_int, rd'_str, rd'_tup, rd_lst', rd_bl, rd_non, rd_scr, t_bl, t_int, t_non, Nat.reduceAdd, Nat.reduceLT, reduceIte, and_self, e, t1, intD, c2]
end
end Kw

set_option Elab.async false
set_option linter.all false
set_option maxRecDepth 100000
set_option maxHeartbeats 2000000
/-! Law k03: _law_with, _law_yes, _law_own, _law_many, _law_deep. -/
namespace Kw
open PySem
def withR (r : List Str) (s : Str) (b : Bool) : List Str := srt ((r.filter fun x => !decide (x = s)) ++ if b then [s] else [])
theorem withR_mem {r : List Str} {s x : Str} {b : Bool} : decide (x ∈ withR r s b) = upT (fun y => decide (y ∈ r)) s b x := by
  rw [Bool.eq_iff_iff, decide_eq_true_eq]
  unfold withR upT
  rw [srt_mem, List.mem_append, List.mem_filter]
  by_cases e : x = s
  · subst e
    cases b <;> simp
  · cases b <;> simp [e]
theorem withR_sub {r : List Str} {s : Str} {b : Bool} : ∀ x ∈ withR r s b, x ∈ r ∨ x = s := fun x hx => by
  unfold withR at hx
  rw [srt_mem, List.mem_append, List.mem_filter] at hx
  rcases hx with h | h
  · exact .inl h.1
  · cases b <;> simp at h
    exact .inr h
theorem withR_len {r : List Str} {s : Str} {b : Bool} : (withR r s b).length ≤ r.length + 1 := by
  unfold withR
  rw [srt_len, List.length_append]
  have := List.length_filter_le (fun x => !decide (x = s)) r
  cases b <;> simp <;> omega
def neS (s : Str) : D → Bool
  | .str x => !decide (x = s)
  | _ => false
section
variable {k : Nat} {st : Store}
theorem with_ok {r : List Str} {s : Str} {b : Bool} (hr : ∀ x ∈ r, okS x) (hs : okS s) (hl : r.length ≤ 1000) : cfN tab (k + 1) F_law_with [rowD r, .str s, .bl b] st = some (rowD (withR r s b), st) := by
  refine run_rt rfl rfl ?_
  have hi : evI (cfN tab k) (.seq (.var 0)) [some (rowD r), some (.str s), some (.bl b), none] st = some (r.map D.str, st) := by
    rw [x_seq]
    simp only [x_var, x_con, x_glob, x_tup, x_lst, x_bin, x_neg, x_inv, x_cmp, x_not, x_ite, x_ix, x_sl, x_call, x_bi, x_Es0, x_Es1, x_O0, x_O1, x_C0, x_asg, x_par2, x_aug, x_if, x_ret, x_ex, x_never, x_Ss0, x_Ss1, R.bind_some, List.getElem?_cons_zero, List.getElem?_cons_succ, List.set_cons_zero, List.set_cons_succ, Option.map_some, List.map_cons, List.map_nil, List.replicate, List.cons_append, List.nil_append, List.append_nil, Nat.sub_self, asg_nm, asg_tup, asgs_nil, asgs_cons, List.length_cons, List.length_nil, rd'_int, rd'_str, rd'_tup, rd_lst', rd_bl, rd_non, rd_scr, t_bl, t_int, t_non, Nat.reduceAdd, Nat.reduceLT, reduceIte, and_self, rowD, itemsOf]
  have h1 : evE (cfN tab k) (.lc false (.var 3) (.nm 3) (.seq (.var 0)) (some (.cmp .NotEq (.var 3) (.var 1))) [3]) [some (rowD r), some (.str s), some (.bl b), none] st = some (.lst ((r.filter fun x => !decide (x = s)).map D.str), st) := by
    have e : (r.filter fun x => !decide (x = s)).map D.str = ((r.map D.str).filter (neS s)).map id := by
      rw [List.map_id, List.filter_map]
      rfl
    rw [e]
    refine x_lcf hi (lim10 (by rw [List.length_map]; omega)) fun d hd => ?_
    obtain ⟨x, hx, rfl⟩ := List.mem_map.mp hd
    have c := cmp_ne_ss (st := st) (hr x hx) hs
    refine ⟨[some (rowD r), some (.str s), some (.bl b), some (.str x)], .bl (!decide (x = s)), rfl, by simp only [x_var, x_con, x_glob, x_tup, x_lst, x_bin, x_neg, x_inv, x_cmp, x_not, x_ite, x_ix, x_sl, x_call, x_bi, x_Es0, x_Es1, x_O0, x_O1, x_C0, x_asg, x_par2, x_aug, x_if, x_ret, x_ex, x_never, x_Ss0, x_Ss1, R.bind_some, List.getElem?_cons_zero, List.getElem?_cons_succ, List.set_cons_zero, List.set_cons_succ, Option.map_some, List.map_cons, List.map_nil, List.replicate, List.cons_append, List.nil_append, List.append_nil, Nat.sub_self, asg_nm, asg_tup, asgs_nil, asgs_cons, List.length_cons, List.length_nil, rd'_int, rd'_str, rd'_tup, rd_lst', rd_bl, rd_non, rd_scr, t_bl, t_int, t_non, Nat.reduceAdd, Nat.reduceLT, reduceIte, and_self, c], rfl, fun _ => by simp only [x_var, x_con, x_glob, x_tup, x_lst, x_bin, x_neg, x_inv, x_cmp, x_not, x_ite, x_ix, x_sl, x_call, x_bi, x_Es0, x_Es1, x_O0, x_O1, x_C0, x_asg, x_par2, x_aug, x_if, x_ret, x_ex, x_never, x_Ss0, x_Ss1, R.bind_some, List.getElem?_cons_zero, List.getElem?_cons_succ, List.set_cons_zero, List.set_cons_succ, Option.map_some, List.map_cons, List.map_nil, List.replicate, List.cons_append, List.nil_append, List.append_nil, Nat.sub_self, asg_nm, asg_tup, asgs_nil, asgs_cons, List.length_cons, List.length_nil, rd'_int, rd'_str, rd'_tup, rd_lst', rd_bl, rd_non, rd_scr, t_bl, t_int, t_non, Nat.reduceAdd, Nat.reduceLT, reduceIte, and_self, id]⟩
  have h2 : evE (cfN tab k) (.bin .Mult (.lst [(.var 1)]) (.bi .int [(.var 2)])) [some (rowD r), some (.str s), some (.bl b), none] st = some (.lst ((if b then [s] else []).map D.str), st) := by
    cases b <;> kernel_rfl
  have h3 : binD .Add (.lst ((r.filter fun x => !decide (x = s)).map D.str)) (.lst ((if b then [s] else []).map D.str)) = some (.lst (((r.filter fun x => !decide (x = s)) ++ (if b then [s] else [])).map D.str)) := by
    rw [List.map_append]
    refine if_pos (lim10 ?_)
    have := List.length_filter_le (fun x => !decide (x = s)) r
    rw [List.length_map, List.length_map]
    cases b <;> simp <;> omega
  have hs2 := sort_strs (ss := (r.filter fun x => !decide (x = s)) ++ (if b then [s] else [])) (fun x hx => by
    rcases List.mem_append.mp hx with h | h
    · exact hr x (List.mem_filter.mp h).1
    · cases b <;> simp at h
      rw [h]
      exact hs) (lim10 (by
    have := List.length_filter_le (fun x => !decide (x = s)) r
    rw [List.length_append]
    cases b <;> simp <;> omega))
  rw [srt_map] at hs2
  have h4 : evE (cfN tab k) (.bin .Add (.lc false (.var 3) (.nm 3) (.seq (.var 0)) (some (.cmp .NotEq (.var 3) (.var 1))) [3]) (.bin .Mult (.lst [(.var 1)]) (.bi .int [(.var 2)]))) [some (rowD r), some (.str s), some (.bl b), none] st = some (.lst (((r.filter fun x => !decide (x = s)) ++ (if b then [s] else [])).map D.str), st) := by
    rw [x_bin, h1, R.bind_some, h2, R.bind_some, rd_lst', rd_lst', h3]
    rfl
  show evSs (cfN tab k) [_] [some (rowD r), some (.str s), some (.bl b), none] st = _
  refine Ss_rt ?_
  rw [x_ret, x_bi, x_Es1, x_bi, x_Es1, h4]
  simp only [R.bind_some, x_Es0, biD, hs2, Option.map_some]
  rfl
theorem ev_or2 {cf : CF} {a b : E} {p q : Bool} {env : Env} (ha : evE cf a env st = some (.bl p, st)) (hb : evE cf b env st = some (.bl q, st)) : evE cf (.or [a, b]) env st = some (.bl (p || q), st) := by
  rw [x_or, evOr]
  simp only [ha, R.bind_some]
  cases p
  · rw [x_or1, hb]
    rfl
  · rfl
theorem ev_and2 {cf : CF} {a b : E} {p q : Bool} {env : Env} (ha : evE cf a env st = some (.bl p, st)) (hb : evE cf b env st = some (.bl q, st)) : evE cf (.and [a, b]) env st = some (.bl (p && q), st) := by
  rw [x_and, evAnd]
  simp only [ha, R.bind_some]
  cases p
  · rfl
  · rw [x_and1, hb]
    rfl
theorem eqv_bb (a b : Bool) : PyData.eqv (D.bl a).py (D.bl b).py = decide (a = b) := by
  cases a <;> cases b <;> rfl
theorem cmp_ne_bb {a b : Bool} : cmpD .NotEq st (.bl a) (.bl b) = some (a ^^ b) := by
  cases a <;> cases b <;> kernel_rfl
theorem yes_start {f : Fm} {r : List Str} {q : R Fl} (h : evSs (cfN tab k) (ir_law_yes.body.drop 1) [some f.d, some (rowD r), some (.str f.word), none, none, none, none] st = q) : evSs (cfN tab k) ir_law_yes.body [some f.d, some (rowD r), none, none, none, none, none] st = q := by
  rw [← h]
  show evSs _ (_ :: _) _ _ = _
  refine Ss_nx ?_
  simp only [x_var, x_con, x_glob, x_tup, x_lst, x_bin, x_neg, x_inv, x_cmp, x_not, x_ite, x_ix, x_sl, x_call, x_bi, x_Es0, x_Es1, x_O0, x_O1, x_C0, x_asg, x_par2, x_aug, x_if, x_ret, x_ex, x_never, x_Ss0, x_Ss1, R.bind_some, List.getElem?_cons_zero, List.getElem?_cons_succ, List.set_cons_zero, List.set_cons_succ, Option.map_some, List.map_cons, List.map_nil, List.replicate, List.cons_append, List.nil_append, List.append_nil, Nat.sub_self, asg_nm, asg_tup, asgs_nil, asgs_cons, List.length_cons, List.length_nil, rd'_int, rd'_str, rd'_tup, rd_lst', rd_bl, rd_non, rd_scr, t_bl, t_int, t_non, Nat.reduceAdd, Nat.reduceLT, reduceIte, and_self, ix_word]
theorem yes_ok : ∀ (f : Fm) (r : List Str), (∀ x ∈ f.names, okS x) → (∀ x ∈ r, okS x) → r.length + f.deep ≤ 1000 → ∀ k, f.deep + 2 ≤ k → ∀ st, cfN tab k F_law_yes [f.d, rowD r] st = some (.bl (rowOk f r), st) := by
  intro f
  induction f with
  | yes =>
    intro r _ _ _ k hk st
    obtain ⟨k, rfl⟩ : ∃ j, k = j + 2 := ⟨k - 2, by omega⟩
    refine run_rt rfl rfl (yes_start ?_)
    kernel_rfl
  | no =>
    intro r _ _ _ k hk st
    obtain ⟨k, rfl⟩ : ∃ j, k = j + 2 := ⟨k - 2, by omega⟩
    refine run_rt rfl rfl (yes_start ?_)
    kernel_rfl
  | nm s =>
    intro r hf hr _ k hk st
    obtain ⟨k, rfl⟩ : ∃ j, k = j + 2 := ⟨k - 2, by omega⟩
    refine run_rt rfl rfl (yes_start ?_)
    have c1 : cmpD .In st (.str "name") (.tup [.str "yes", .str "no"]) = some false := by kernel_rfl
    have c2 : cmpD .Eq st (.str "name") (.str "name") = some true := by kernel_rfl
    have c3 := (in_strs (st := st) (hf s (by simp [Fm.names])) hr).1
    have i1 : ixD st (Fm.nm s).d (.int 1) = some (.str s) := rfl
    simp only [ir_law_yes, List.drop_succ_cons, List.drop_zero, x_var, x_con, x_glob, x_tup, x_lst, x_bin, x_neg, x_inv, x_cmp, x_not, x_ite, x_ix, x_sl, x_call, x_bi, x_Es0, x_Es1, x_O0, x_O1, x_C0, x_asg, x_par2, x_aug, x_if, x_ret, x_ex, x_never, x_Ss0, x_Ss1, R.bind_some, List.getElem?_cons_zero, List.getElem?_cons_succ, List.set_cons_zero, List.set_cons_succ, Option.map_some, List.map_cons, List.map_nil, List.replicate, List.cons_append, List.nil_append, List.append_nil, Nat.sub_self, asg_nm, asg_tup, asgs_nil, asgs_cons, List.length_cons, List.length_nil, rd'_int, rd'_str, rd'_tup, rd_lst', rd_bl, rd_non, rd_scr, t_bl, t_int, t_non, Nat.reduceAdd, Nat.reduceLT, reduceIte, and_self, Fm.word, c1, c2, i1, rowD, c3]
    rfl
  | not a ih =>
    intro r hf hr hl k hk st
    simp only [Fm.deep] at hk hl
    obtain ⟨k, rfl⟩ : ∃ j, k = j + 2 := ⟨k - 2, by omega⟩
    refine run_rt rfl rfl (yes_start ?_)
    have c1 : cmpD .In st (.str "not") (.tup [.str "yes", .str "no"]) = some false := by kernel_rfl
    have c2 : cmpD .Eq st (.str "not") (.str "name") = some false := by kernel_rfl
    have c3 : cmpD .In st (.str "not") (.tup [.str "some", .str "all"]) = some false := by kernel_rfl
    have c4 : cmpD .Eq st (.str "not") (.str "put") = some false := by kernel_rfl
    have c5 : cmpD .Eq st (.str "not") (.str "not") = some true := by kernel_rfl
    have i1 : ixD st (Fm.not a).d (.int 1) = some a.d := rfl
    have e := ih r (fun x hx => hf x (by simp [Fm.names, hx])) hr (by omega) (k + 1) (by omega) st
    simp only [ir_law_yes, List.drop_succ_cons, List.drop_zero, x_var, x_con, x_glob, x_tup, x_lst, x_bin, x_neg, x_inv, x_cmp, x_not, x_ite, x_ix, x_sl, x_call, x_bi, x_Es0, x_Es1, x_O0, x_O1, x_C0, x_asg, x_par2, x_aug, x_if, x_ret, x_ex, x_never, x_Ss0, x_Ss1, R.bind_some, List.getElem?_cons_zero, List.getElem?_cons_succ, List.set_cons_zero, List.set_cons_succ, Option.map_some, List.map_cons, List.map_nil, List.replicate, List.cons_append, List.nil_append, List.append_nil, Nat.sub_self, asg_nm, asg_tup, asgs_nil, asgs_cons, List.length_cons, List.length_nil, rd'_int, rd'_str, rd'_tup, rd_lst', rd_bl, rd_non, rd_scr, t_bl, t_int, t_non, Nat.reduceAdd, Nat.reduceLT, reduceIte, and_self, Fm.word, c1, c2, c3, c4, c5, i1, e]
    rfl
  | bin w a b iha ihb =>
    intro r hf hr hl k hk st
    simp only [Fm.deep] at hk hl
    obtain ⟨k, rfl⟩ : ∃ j, k = j + 2 := ⟨k - 2, by omega⟩
    refine run_rt rfl rfl (yes_start ?_)
    have i1 : ixD st (Fm.bin w a b).d (.int 1) = some a.d := rfl
    have i2 : ixD st (Fm.bin w a b).d (.int 2) = some b.d := rfl
    have ea := iha r (fun x hx => hf x (by simp [Fm.names, hx])) hr (by omega) (k + 1) (by omega) st
    have eb := ihb r (fun x hx => hf x (by simp [Fm.names, hx])) hr (by omega) (k + 1) (by omega) st
    match w with
    | 0 =>
      have c1 : cmpD .In st (.str "and") (.tup [.str "yes", .str "no"]) = some false := by kernel_rfl
      have c2 : cmpD .Eq st (.str "and") (.str "name") = some false := by kernel_rfl
      have c3 : cmpD .In st (.str "and") (.tup [.str "some", .str "all"]) = some false := by kernel_rfl
      have c4 : cmpD .Eq st (.str "and") (.str "put") = some false := by kernel_rfl
      have c5 : cmpD .Eq st (.str "and") (.str "not") = some false := by kernel_rfl
      have c6 : cmpD .Eq st (.str "and") (.str "if") = some false := by kernel_rfl
      have c7 : cmpD .Eq st (.str "and") (.str "xor") = some false := by kernel_rfl
      have c8 : cmpD .Eq st (.str "and") (.str "and") = some true := by kernel_rfl
      have o : evE (cfN tab (k + 1)) (.and [.var 3, .var 4]) [some (Fm.bin 0 a b).d, some (rowD r), some (.str "and"), some (.bl (rowOk a r)), some (.bl (rowOk b r)), none, none] st = some (.bl (rowOk a r && rowOk b r), st) := ev_and2 (by simp only [x_var, x_con, x_glob, x_tup, x_lst, x_bin, x_neg, x_inv, x_cmp, x_not, x_ite, x_ix, x_sl, x_call, x_bi, x_Es0, x_Es1, x_O0, x_O1, x_C0, x_asg, x_par2, x_aug, x_if, x_ret, x_ex, x_never, x_Ss0, x_Ss1, R.bind_some, List.getElem?_cons_zero, List.getElem?_cons_succ, List.set_cons_zero, List.set_cons_succ, Option.map_some, List.map_cons, List.map_nil, List.replicate, List.cons_append, List.nil_append, List.append_nil, Nat.sub_self, asg_nm, asg_tup, asgs_nil, asgs_cons, List.length_cons, List.length_nil, rd'_int, rd'_str, rd'_tup, rd_lst', rd_bl, rd_non, rd_scr, t_bl, t_int, t_non, Nat.reduceAdd, Nat.reduceLT, reduceIte, and_self]) (by simp only [x_var, x_con, x_glob, x_tup, x_lst, x_bin, x_neg, x_inv, x_cmp, x_not, x_ite, x_ix, x_sl, x_call, x_bi, x_Es0, x_Es1, x_O0, x_O1, x_C0, x_asg, x_par2, x_aug, x_if, x_ret, x_ex, x_never, x_Ss0, x_Ss1, R.bind_some, List.getElem?_cons_zero, List.getElem?_cons_succ, List.set_cons_zero, List.set_cons_succ, Option.map_some, List.map_cons, List.map_nil, List.replicate, List.cons_append, List.nil_append, List.append_nil, Nat.sub_self, asg_nm, asg_tup, asgs_nil, asgs_cons, List.length_cons, List.length_nil, rd'_int, rd'_str, rd'_tup, rd_lst', rd_bl, rd_non, rd_scr, t_bl, t_int, t_non, Nat.reduceAdd, Nat.reduceLT, reduceIte, and_self])
      simp only [ir_law_yes, List.drop_succ_cons, List.drop_zero, x_var, x_con, x_glob, x_tup, x_lst, x_bin, x_neg, x_inv, x_cmp, x_not, x_ite, x_ix, x_sl, x_call, x_bi, x_Es0, x_Es1, x_O0, x_O1, x_C0, x_asg, x_par2, x_aug, x_if, x_ret, x_ex, x_never, x_Ss0, x_Ss1, R.bind_some, List.getElem?_cons_zero, List.getElem?_cons_succ, List.set_cons_zero, List.set_cons_succ, Option.map_some, List.map_cons, List.map_nil, List.replicate, List.cons_append, List.nil_append, List.append_nil, Nat.sub_self, asg_nm, asg_tup, asgs_nil, asgs_cons, List.length_cons, List.length_nil, rd'_int, rd'_str, rd'_tup, rd_lst', rd_bl, rd_non, rd_scr, t_bl, t_int, t_non, Nat.reduceAdd, Nat.reduceLT, reduceIte, and_self, Fm.word, binW, c1, c2, c3, c4, c5, c6, c7, c8, i1, i2, ea, eb, o]
      rfl
    | 1 =>
      have c1 : cmpD .In st (.str "or") (.tup [.str "yes", .str "no"]) = some false := by kernel_rfl
      have c2 : cmpD .Eq st (.str "or") (.str "name") = some false := by kernel_rfl
      have c3 : cmpD .In st (.str "or") (.tup [.str "some", .str "all"]) = some false := by kernel_rfl
      have c4 : cmpD .Eq st (.str "or") (.str "put") = some false := by kernel_rfl
      have c5 : cmpD .Eq st (.str "or") (.str "not") = some false := by kernel_rfl
      have c6 : cmpD .Eq st (.str "or") (.str "if") = some false := by kernel_rfl
      have c7 : cmpD .Eq st (.str "or") (.str "xor") = some false := by kernel_rfl
      have c8 : cmpD .Eq st (.str "or") (.str "and") = some false := by kernel_rfl
      have o : evE (cfN tab (k + 1)) (.or [.var 3, .var 4]) [some (Fm.bin 1 a b).d, some (rowD r), some (.str "or"), some (.bl (rowOk a r)), some (.bl (rowOk b r)), none, none] st = some (.bl (rowOk a r || rowOk b r), st) := ev_or2 (by simp only [x_var, x_con, x_glob, x_tup, x_lst, x_bin, x_neg, x_inv, x_cmp, x_not, x_ite, x_ix, x_sl, x_call, x_bi, x_Es0, x_Es1, x_O0, x_O1, x_C0, x_asg, x_par2, x_aug, x_if, x_ret, x_ex, x_never, x_Ss0, x_Ss1, R.bind_some, List.getElem?_cons_zero, List.getElem?_cons_succ, List.set_cons_zero, List.set_cons_succ, Option.map_some, List.map_cons, List.map_nil, List.replicate, List.cons_append, List.nil_append, List.append_nil, Nat.sub_self, asg_nm, asg_tup, asgs_nil, asgs_cons, List.length_cons, List.length_nil, rd'_int, rd'_str, rd'_tup, rd_lst', rd_bl, rd_non, rd_scr, t_bl, t_int, t_non, Nat.reduceAdd, Nat.reduceLT, reduceIte, and_self]) (by simp only [x_var, x_con, x_glob, x_tup, x_lst, x_bin, x_neg, x_inv, x_cmp, x_not, x_ite, x_ix, x_sl, x_call, x_bi, x_Es0, x_Es1, x_O0, x_O1, x_C0, x_asg, x_par2, x_aug, x_if, x_ret, x_ex, x_never, x_Ss0, x_Ss1, R.bind_some, List.getElem?_cons_zero, List.getElem?_cons_succ, List.set_cons_zero, List.set_cons_succ, Option.map_some, List.map_cons, List.map_nil, List.replicate, List.cons_append, List.nil_append, List.append_nil, Nat.sub_self, asg_nm, asg_tup, asgs_nil, asgs_cons, List.length_cons, List.length_nil, rd'_int, rd'_str, rd'_tup, rd_lst', rd_bl, rd_non, rd_scr, t_bl, t_int, t_non, Nat.reduceAdd, Nat.reduceLT, reduceIte, and_self])
      simp only [ir_law_yes, List.drop_succ_cons, List.drop_zero, x_var, x_con, x_glob, x_tup, x_lst, x_bin, x_neg, x_inv, x_cmp, x_not, x_ite, x_ix, x_sl, x_call, x_bi, x_Es0, x_Es1, x_O0, x_O1, x_C0, x_asg, x_par2, x_aug, x_if, x_ret, x_ex, x_never, x_Ss0, x_Ss1, R.bind_some, List.getElem?_cons_zero, List.getElem?_cons_succ, List.set_cons_zero, List.set_cons_succ, Option.map_some, List.map_cons, List.map_nil, List.replicate, List.cons_append, List.nil_append, List.append_nil, Nat.sub_self, asg_nm, asg_tup, asgs_nil, asgs_cons, List.length_cons, List.length_nil, rd'_int, rd'_str, rd'_tup, rd_lst', rd_bl, rd_non, rd_scr, t_bl, t_int, t_non, Nat.reduceAdd, Nat.reduceLT, reduceIte, and_self, Fm.word, binW, c1, c2, c3, c4, c5, c6, c7, c8, i1, i2, ea, eb, o]
      rfl
    | 2 =>
      have c1 : cmpD .In st (.str "xor") (.tup [.str "yes", .str "no"]) = some false := by kernel_rfl
      have c2 : cmpD .Eq st (.str "xor") (.str "name") = some false := by kernel_rfl
      have c3 : cmpD .In st (.str "xor") (.tup [.str "some", .str "all"]) = some false := by kernel_rfl
      have c4 : cmpD .Eq st (.str "xor") (.str "put") = some false := by kernel_rfl
      have c5 : cmpD .Eq st (.str "xor") (.str "not") = some false := by kernel_rfl
      have c6 : cmpD .Eq st (.str "xor") (.str "if") = some false := by kernel_rfl
      have c7 : cmpD .Eq st (.str "xor") (.str "xor") = some true := by kernel_rfl
      have c8 := cmp_ne_bb (st := st) (a := rowOk a r) (b := rowOk b r)
      simp only [ir_law_yes, List.drop_succ_cons, List.drop_zero, x_var, x_con, x_glob, x_tup, x_lst, x_bin, x_neg, x_inv, x_cmp, x_not, x_ite, x_ix, x_sl, x_call, x_bi, x_Es0, x_Es1, x_O0, x_O1, x_C0, x_asg, x_par2, x_aug, x_if, x_ret, x_ex, x_never, x_Ss0, x_Ss1, R.bind_some, List.getElem?_cons_zero, List.getElem?_cons_succ, List.set_cons_zero, List.set_cons_succ, Option.map_some, List.map_cons, List.map_nil, List.replicate, List.cons_append, List.nil_append, List.append_nil, Nat.sub_self, asg_nm, asg_tup, asgs_nil, asgs_cons, List.length_cons, List.length_nil, rd'_int, rd'_str, rd'_tup, rd_lst', rd_bl, rd_non, rd_scr, t_bl, t_int, t_non, Nat.reduceAdd, Nat.reduceLT, reduceIte, and_self, Fm.word, binW, c1, c2, c3, c4, c5, c6, c7, c8, i1, i2, ea, eb]
      rfl
  | ite a b c iha ihb ihc =>
    intro r hf hr hl k hk st
    simp only [Fm.deep] at hk hl
    obtain ⟨k, rfl⟩ : ∃ j, k = j + 2 := ⟨k - 2, by omega⟩
    refine run_rt rfl rfl (yes_start ?_)
    have i1 : ixD st (Fm.ite a b c).d (.int 1) = some a.d := rfl
    have i2 : ixD st (Fm.ite a b c).d (.int 2) = some b.d := rfl
    have i3 : ixD st (Fm.ite a b c).d (.int 3) = some c.d := rfl
    have ea := iha r (fun x hx => hf x (by simp [Fm.names, hx])) hr (by omega) (k + 1) (by omega) st
    have eb := ihb r (fun x hx => hf x (by simp [Fm.names, hx])) hr (by omega) (k + 1) (by omega) st
    have ec := ihc r (fun x hx => hf x (by simp [Fm.names, hx])) hr (by omega) (k + 1) (by omega) st
    have c1 : cmpD .In st (.str "if") (.tup [.str "yes", .str "no"]) = some false := by kernel_rfl
    have c2 : cmpD .Eq st (.str "if") (.str "name") = some false := by kernel_rfl
    have c3 : cmpD .In st (.str "if") (.tup [.str "some", .str "all"]) = some false := by kernel_rfl
    have c4 : cmpD .Eq st (.str "if") (.str "put") = some false := by kernel_rfl
    have c5 : cmpD .Eq st (.str "if") (.str "not") = some false := by kernel_rfl
    have c6 : cmpD .Eq st (.str "if") (.str "if") = some true := by kernel_rfl
    have e : rowOk (.ite a b c) r = if rowOk a r then rowOk b r else rowOk c r := rfl
    rw [e]
    simp only [ir_law_yes, List.drop_succ_cons, List.drop_zero, x_var, x_con, x_glob, x_tup, x_lst, x_bin, x_neg, x_inv, x_cmp, x_not, x_ite, x_ix, x_sl, x_call, x_bi, x_Es0, x_Es1, x_O0, x_O1, x_C0, x_asg, x_par2, x_aug, x_if, x_ret, x_ex, x_never, x_Ss0, x_Ss1, R.bind_some, List.getElem?_cons_zero, List.getElem?_cons_succ, List.set_cons_zero, List.set_cons_succ, Option.map_some, List.map_cons, List.map_nil, List.replicate, List.cons_append, List.nil_append, List.append_nil, Nat.sub_self, asg_nm, asg_tup, asgs_nil, asgs_cons, List.length_cons, List.length_nil, rd'_int, rd'_str, rd'_tup, rd_lst', rd_bl, rd_non, rd_scr, t_bl, t_int, t_non, Nat.reduceAdd, Nat.reduceLT, reduceIte, and_self, Fm.word, c1, c2, c3, c4, c5, c6, i1, ea]
    cases rowOk a r with
    | true => simp only [x_var, x_con, x_glob, x_tup, x_lst, x_bin, x_neg, x_inv, x_cmp, x_not, x_ite, x_ix, x_sl, x_call, x_bi, x_Es0, x_Es1, x_O0, x_O1, x_C0, x_asg, x_par2, x_aug, x_if, x_ret, x_ex, x_never, x_Ss0, x_Ss1, R.bind_some, List.getElem?_cons_zero, List.getElem?_cons_succ, List.set_cons_zero, List.set_cons_succ, Option.map_some, List.map_cons, List.map_nil, List.replicate, List.cons_append, List.nil_append, List.append_nil, Nat.sub_self, asg_nm, asg_tup, asgs_nil, asgs_cons, List.length_cons, List.length_nil, rd'_int, rd'_str, rd'_tup, rd_lst', rd_bl, rd_non, rd_scr, t_bl, t_int, t_non, Nat.reduceAdd, Nat.reduceLT, reduceIte, and_self, i2, eb]
    | false => simp only [x_var, x_con, x_glob, x_tup, x_lst, x_bin, x_neg, x_inv, x_cmp, x_not, x_ite, x_ix, x_sl, x_call, x_bi, x_Es0, x_Es1, x_O0, x_O1, x_C0, x_asg, x_par2, x_aug, x_if, x_ret, x_ex, x_never, x_Ss0, x_Ss1, R.bind_some, List.getElem?_cons_zero, List.getElem?_cons_succ, List.set_cons_zero, List.set_cons_succ, Option.map_some, List.map_cons, List.map_nil, List.replicate, List.cons_append, List.nil_append, List.append_nil, Nat.sub_self, asg_nm, asg_tup, asgs_nil, asgs_cons, List.length_cons, List.length_nil, rd'_int, rd'_str, rd'_tup, rd_lst', rd_bl, rd_non, rd_scr, t_bl, t_int, t_non, Nat.reduceAdd, Nat.reduceLT, reduceIte, and_self, i3, ec, Bool.false_eq_true]
  | qu w s a ih =>
    intro r hf hr hl k hk st
    simp only [Fm.deep] at hk hl
    obtain ⟨k, rfl⟩ : ∃ j, k = j + 2 := ⟨k - 2, by omega⟩
    refine run_rt rfl rfl (yes_start ?_)
    have hs := hf s (by simp [Fm.names])
    have i1 : ixD st (Fm.qu w s a).d (.int 1) = some (.str s) := rfl
    have i2 : ixD st (Fm.qu w s a).d (.int 2) = some a.d := rfl
    have w1 := with_ok (k := k) (st := st) (b := true) hr hs (by omega)
    have w2 := with_ok (k := k) (st := st) (b := false) hr hs (by omega)
    have ok : ∀ b, ∀ x ∈ withR r s b, okS x := fun b x hx => (withR_sub x hx).elim (hr x) fun e => e ▸ hs
    have e1 := ih (withR r s true) (fun x hx => hf x (by simp [Fm.names, hx])) (ok true) (by have := withR_len (r := r) (s := s) (b := true); omega) (k + 1) (by omega) st
    have e2 := ih (withR r s false) (fun x hx => hf x (by simp [Fm.names, hx])) (ok false) (by have := withR_len (r := r) (s := s) (b := false); omega) (k + 1) (by omega) st
    have c1 : cmpD .In st (.str (quW w)) (.tup [.str "yes", .str "no"]) = some false := by cases w <;> kernel_rfl
    have c2 : cmpD .Eq st (.str (quW w)) (.str "name") = some false := by cases w <;> kernel_rfl
    have c3 : cmpD .In st (.str (quW w)) (.tup [.str "some", .str "all"]) = some true := by cases w <;> kernel_rfl
    have c4 : cmpD .Eq st (.str (quW w)) (.str "some") = some w := by cases w <;> kernel_rfl
    have v : ∀ b, rowOk a (withR r s b) = a.ev (upT (fun y => decide (y ∈ r)) s b) := fun b => Fm.ev_congr a fun x _ => withR_mem
    have o1 := ev_or2 (st := st) (cf := cfN tab (k + 1)) (a := .var 5) (b := .var 6) (p := rowOk a (withR r s true)) (q := rowOk a (withR r s false)) (env := [some (Fm.qu w s a).d, some (rowD r), some (.str (quW w)), none, none, some (.bl (rowOk a (withR r s true))), some (.bl (rowOk a (withR r s false)))]) (by simp only [x_var, x_con, x_glob, x_tup, x_lst, x_bin, x_neg, x_inv, x_cmp, x_not, x_ite, x_ix, x_sl, x_call, x_bi, x_Es0, x_Es1, x_O0, x_O1, x_C0, x_asg, x_par2, x_aug, x_if, x_ret, x_ex, x_never, x_Ss0, x_Ss1, R.bind_some, List.getElem?_cons_zero, List.getElem?_cons_succ, List.set_cons_zero, List.set_cons_succ, Option.map_some, List.map_cons, List.map_nil, List.replicate, List.cons_append, List.nil_append, List.append_nil, Nat.sub_self, asg_nm, asg_tup, asgs_nil, asgs_cons, List.length_cons, List.length_nil, rd'_int, rd'_str, rd'_tup, rd_lst', rd_bl, rd_non, rd_scr, t_bl, t_int, t_non, Nat.reduceAdd, Nat.reduceLT, reduceIte, and_self]) (by simp only [x_var, x_con, x_glob, x_tup, x_lst, x_bin, x_neg, x_inv, x_cmp, x_not, x_ite, x_ix, x_sl, x_call, x_bi, x_Es0, x_Es1, x_O0, x_O1, x_C0, x_asg, x_par2, x_aug, x_if, x_ret, x_ex, x_never, x_Ss0, x_Ss1, R.bind_some, List.getElem?_cons_zero, List.getElem?_cons_succ, List.set_cons_zero, List.set_cons_succ, Option.map_some, List.map_cons, List.map_nil, List.replicate, List.cons_append, List.nil_append, List.append_nil, Nat.sub_self, asg_nm, asg_tup, asgs_nil, asgs_cons, List.length_cons, List.length_nil, rd'_int, rd'_str, rd'_tup, rd_lst', rd_bl, rd_non, rd_scr, t_bl, t_int, t_non, Nat.reduceAdd, Nat.reduceLT, reduceIte, and_self])
    have o2 := ev_and2 (st := st) (cf := cfN tab (k + 1)) (a := .var 5) (b := .var 6) (p := rowOk a (withR r s true)) (q := rowOk a (withR r s false)) (env := [some (Fm.qu w s a).d, some (rowD r), some (.str (quW w)), none, none, some (.bl (rowOk a (withR r s true))), some (.bl (rowOk a (withR r s false)))]) (by simp only [x_var, x_con, x_glob, x_tup, x_lst, x_bin, x_neg, x_inv, x_cmp, x_not, x_ite, x_ix, x_sl, x_call, x_bi, x_Es0, x_Es1, x_O0, x_O1, x_C0, x_asg, x_par2, x_aug, x_if, x_ret, x_ex, x_never, x_Ss0, x_Ss1, R.bind_some, List.getElem?_cons_zero, List.getElem?_cons_succ, List.set_cons_zero, List.set_cons_succ, Option.map_some, List.map_cons, List.map_nil, List.replicate, List.cons_append, List.nil_append, List.append_nil, Nat.sub_self, asg_nm, asg_tup, asgs_nil, asgs_cons, List.length_cons, List.length_nil, rd'_int, rd'_str, rd'_tup, rd_lst', rd_bl, rd_non, rd_scr, t_bl, t_int, t_non, Nat.reduceAdd, Nat.reduceLT, reduceIte, and_self]) (by simp only [x_var, x_con, x_glob, x_tup, x_lst, x_bin, x_neg, x_inv, x_cmp, x_not, x_ite, x_ix, x_sl, x_call, x_bi, x_Es0, x_Es1, x_O0, x_O1, x_C0, x_asg, x_par2, x_aug, x_if, x_ret, x_ex, x_never, x_Ss0, x_Ss1, R.bind_some, List.getElem?_cons_zero, List.getElem?_cons_succ, List.set_cons_zero, List.set_cons_succ, Option.map_some, List.map_cons, List.map_nil, List.replicate, List.cons_append, List.nil_append, List.append_nil, Nat.sub_self, asg_nm, asg_tup, asgs_nil, asgs_cons, List.length_cons, List.length_nil, rd'_int, rd'_str, rd'_tup, rd_lst', rd_bl, rd_non, rd_scr, t_bl, t_int, t_non, Nat.reduceAdd, Nat.reduceLT, reduceIte, and_self])
    simp only [ir_law_yes, List.drop_succ_cons, List.drop_zero, x_var, x_con, x_glob, x_tup, x_lst, x_bin, x_neg, x_inv, x_cmp, x_not, x_ite, x_ix, x_sl, x_call, x_bi, x_Es0, x_Es1, x_O0, x_O1, x_C0, x_asg, x_par2, x_aug, x_if, x_ret, x_ex, x_never, x_Ss0, x_Ss1, R.bind_some, List.getElem?_cons_zero, List.getElem?_cons_succ, List.set_cons_zero, List.set_cons_succ, Option.map_some, List.map_cons, List.map_nil, List.replicate, List.cons_append, List.nil_append, List.append_nil, Nat.sub_self, asg_nm, asg_tup, asgs_nil, asgs_cons, List.length_cons, List.length_nil, rd'_int, rd'_str, rd'_tup, rd_lst', rd_bl, rd_non, rd_scr, t_bl, t_int, t_non, Nat.reduceAdd, Nat.reduceLT, reduceIte, and_self, Fm.word, c1, c2, c3, c4, i1, i2, w1, w2, e1, e2, o1, o2]
    cases w with
    | true =>
      simp only [x_var, x_con, x_glob, x_tup, x_lst, x_bin, x_neg, x_inv, x_cmp, x_not, x_ite, x_ix, x_sl, x_call, x_bi, x_Es0, x_Es1, x_O0, x_O1, x_C0, x_asg, x_par2, x_aug, x_if, x_ret, x_ex, x_never, x_Ss0, x_Ss1, R.bind_some, List.getElem?_cons_zero, List.getElem?_cons_succ, List.set_cons_zero, List.set_cons_succ, Option.map_some, List.map_cons, List.map_nil, List.replicate, List.cons_append, List.nil_append, List.append_nil, Nat.sub_self, asg_nm, asg_tup, asgs_nil, asgs_cons, List.length_cons, List.length_nil, rd'_int, rd'_str, rd'_tup, rd_lst', rd_bl, rd_non, rd_scr, t_bl, t_int, t_non, Nat.reduceAdd, Nat.reduceLT, reduceIte, and_self, v]
      rfl
    | false =>
      simp only [x_var, x_con, x_glob, x_tup, x_lst, x_bin, x_neg, x_inv, x_cmp, x_not, x_ite, x_ix, x_sl, x_call, x_bi, x_Es0, x_Es1, x_O0, x_O1, x_C0, x_asg, x_par2, x_aug, x_if, x_ret, x_ex, x_never, x_Ss0, x_Ss1, R.bind_some, List.getElem?_cons_zero, List.getElem?_cons_succ, List.set_cons_zero, List.set_cons_succ, Option.map_some, List.map_cons, List.map_nil, List.replicate, List.cons_append, List.nil_append, List.append_nil, Nat.sub_self, asg_nm, asg_tup, asgs_nil, asgs_cons, List.length_cons, List.length_nil, rd'_int, rd'_str, rd'_tup, rd_lst', rd_bl, rd_non, rd_scr, t_bl, t_int, t_non, Nat.reduceAdd, Nat.reduceLT, reduceIte, and_self, v]
      rfl
  | put s a b iha ihb =>
    intro r hf hr hl k hk st
    simp only [Fm.deep] at hk hl
    obtain ⟨k, rfl⟩ : ∃ j, k = j + 2 := ⟨k - 2, by omega⟩
    refine run_rt rfl rfl (yes_start ?_)
    have hs := hf s (by simp [Fm.names])
    have i1 : ixD st (Fm.put s a b).d (.int 1) = some (.str s) := rfl
    have i2 : ixD st (Fm.put s a b).d (.int 2) = some a.d := rfl
    have i3 : ixD st (Fm.put s a b).d (.int 3) = some b.d := rfl
    have ea := iha r (fun x hx => hf x (by simp [Fm.names, hx])) hr (by omega) (k + 1) (by omega) st
    have w1 := with_ok (k := k) (st := st) (b := rowOk a r) hr hs (by omega)
    have ok : ∀ b, ∀ x ∈ withR r s b, okS x := fun b x hx => (withR_sub x hx).elim (hr x) fun e => e ▸ hs
    have eb := ihb (withR r s (rowOk a r)) (fun x hx => hf x (by simp [Fm.names, hx])) (ok _) (by have := withR_len (r := r) (s := s) (b := rowOk a r); omega) (k + 1) (by omega) st
    have c1 : cmpD .In st (.str "put") (.tup [.str "yes", .str "no"]) = some false := by kernel_rfl
    have c2 : cmpD .Eq st (.str "put") (.str "name") = some false := by kernel_rfl
    have c3 : cmpD .In st (.str "put") (.tup [.str "some", .str "all"]) = some false := by kernel_rfl
    have c4 : cmpD .Eq st (.str "put") (.str "put") = some true := by kernel_rfl
    have v : rowOk b (withR r s (rowOk a r)) = b.ev (upT (fun y => decide (y ∈ r)) s (rowOk a r)) := Fm.ev_congr b fun x _ => withR_mem
    simp only [ir_law_yes, List.drop_succ_cons, List.drop_zero, x_var, x_con, x_glob, x_tup, x_lst, x_bin, x_neg, x_inv, x_cmp, x_not, x_ite, x_ix, x_sl, x_call, x_bi, x_Es0, x_Es1, x_O0, x_O1, x_C0, x_asg, x_par2, x_aug, x_if, x_ret, x_ex, x_never, x_Ss0, x_Ss1, R.bind_some, List.getElem?_cons_zero, List.getElem?_cons_succ, List.set_cons_zero, List.set_cons_succ, Option.map_some, List.map_cons, List.map_nil, List.replicate, List.cons_append, List.nil_append, List.append_nil, Nat.sub_self, asg_nm, asg_tup, asgs_nil, asgs_cons, List.length_cons, List.length_nil, rd'_int, rd'_str, rd'_tup, rd_lst', rd_bl, rd_non, rd_scr, t_bl, t_int, t_non, Nat.reduceAdd, Nat.reduceLT, reduceIte, and_self, Fm.word, c1, c2, c3, c4, i1, i2, i3, ea, w1, eb, v]
    rfl
theorem lown_ok (f : Fm) : cfN tab (k + 1) F_law_own [f.d] st = some (.lst (f.parts.map Fm.d), st) := by
  refine run_rt rfl (by cases f <;> rfl) ?_
  cases f with
  | bin w a b =>
    match w with
    | 0 => kernel_rfl
    | 1 => kernel_rfl
    | 2 => kernel_rfl
  | qu w s a => cases w <;> kernel_rfl
  | _ => kernel_rfl
end
end Kw

set_option Elab.async false
set_option linter.all false
set_option maxRecDepth 100000
set_option maxHeartbeats 2000000
/-! Law k03: _law_many, _law_deep, _law_named, _law_rows. -/
namespace Kw
open PySem
section
variable {k : Nat} {st : Store}
theorem bin_ok {cf : CF} {op : Operator} {a b : E} {env : Env} {st st1 st2 : Store} {x y z : D} (ha : evE cf a env st = some (x, st1)) (hb : evE cf b env st1 = some (y, st2)) (h : binD op (rd st2 x) (rd st2 y) = some z) : evE cf (.bin op a b) env st = some (z, st2) := by
  rw [x_bin, ha, R.bind_some, hb, R.bind_some, h]
  rfl
theorem bi1_ok {cf : CF} {bi : Bi} {a : E} {env : Env} {st st1 st2 : Store} {x z : D} (ha : evE cf a env st = some (x, st1)) (h : biD bi [x] st1 = some (z, st2)) : evE cf (.bi bi [a]) env st = some (z, st2) := by
  rw [x_bi, x_Es1, ha, R.bind_some, x_Es0]
  exact h
theorem cmp_ok {cf : CF} {op : CmpOp} {a b : E} {env : Env} {st st1 st2 : Store} {x y : D} {z : Bool} (ha : evE cf a env st = some (x, st1)) (hb : evE cf b env st1 = some (y, st2)) (h : cmpD op st2 x y = some z) : evE cf (.cmp op a b) env st = some (.bl z, st2) := by
  rw [x_cmp, ha, R.bind_some, hb, R.bind_some, h]
  rfl
theorem ret_ok {cf : CF} {e : E} {env : Env} {st st1 : Store} {x : D} (h : evE cf e env st = some (x, st1)) : evS cf (.ret e) env st = some (.rt x, st1) := by
  rw [x_ret, h]
  rfl
theorem asg_ok {cf : CF} {g : G} {e : E} {env env1 : Env} {st st1 : Store} {x : D} (h : evE cf e env st = some (x, st1)) (ha : asgG g x env = some env1) : evS cf (.asg g e) env st = some (.nx env1, st1) := by
  rw [x_asg, h, R.bind_some, ha]
  rfl
theorem var_ok {cf : CF} {i : Nat} {env : Env} {st : Store} {d : D} (h : env[i]? = some (some d)) : evE cf (.var i) env st = some (d, st) := by
  rw [x_var, h]
theorem parts3 (f : Fm) : f.parts.length ≤ 3 := by cases f <;> simp [Fm.parts]
/-- a comprehension over the parts that calls -/
theorem lc_parts {e : E} {f : Fm} {h : Fm → D} (he : ∀ g ∈ f.parts, evE (cfN tab k) e [some f.d, some g.d] st = some (h g, st)) (hk : 1 ≤ k) :
    evE (cfN tab k) (.lc false e (.nm 1) (.seq (.call F_law_own [(.var 0)])) none [1]) [some f.d, none] st = some (.lst (f.parts.map h), st) := by
  obtain ⟨k, rfl⟩ : ∃ j, k = j + 1 := ⟨k - 1, by omega⟩
  have o := lown_ok (k := k) (st := st) f
  have hi : evI (cfN tab (k + 1)) (.seq (.call F_law_own [(.var 0)])) [some f.d, none] st = some (f.parts.map Fm.d, st) := by
    rw [x_seq]
    simp only [x_var, x_con, x_glob, x_tup, x_lst, x_bin, x_neg, x_inv, x_cmp, x_not, x_ite, x_ix, x_sl, x_call, x_bi, x_Es0, x_Es1, x_O0, x_O1, x_C0, x_asg, x_par2, x_aug, x_if, x_ret, x_ex, x_never, x_Ss0, x_Ss1, R.bind_some, List.getElem?_cons_zero, List.getElem?_cons_succ, List.set_cons_zero, List.set_cons_succ, Option.map_some, List.map_cons, List.map_nil, List.replicate, List.cons_append, List.nil_append, List.append_nil, Nat.sub_self, asg_nm, asg_tup, asgs_nil, asgs_cons, List.length_cons, List.length_nil, rd'_int, rd'_str, rd'_tup, rd_lst', rd_bl, rd_non, rd_scr, t_bl, t_int, t_non, Nat.reduceAdd, Nat.reduceLT, reduceIte, and_self, o, itemsOf]
  rw [x_lcp (h := fun d => valOf (evE (cfN tab (k + 1)) e [some f.d, some d] st)) hi (lim10 (by rw [List.length_map]; have := parts3 f; omega)) (fun d hd => ?_), List.map_map]
  · exact congrArg (fun l => some (D.lst l, st)) (List.map_congr_left fun g hg => valOf_eq (he g hg))
  · obtain ⟨g, hg, rfl⟩ := List.mem_map.mp hd
    exact ⟨[some f.d, some g.d], rfl, by rw [he g hg]; rfl⟩
theorem many_ok : ∀ (n : Nat) (f : Fm), f.deep ≤ n → ∀ k, n + 2 ≤ k → ∀ st, cfN tab k F_law_many [f.d] st = some (.int f.size, st) := by
  intro n
  induction n with
  | zero =>
    intro f hf k hk st
    obtain ⟨k, rfl⟩ : ∃ j, k = j + 2 := ⟨k - 2, by omega⟩
    refine run_rt rfl rfl ?_
    have l := lc_parts (k := k + 1) (st := st) (e := .call F_law_many [(.var 1)]) (f := f) (h := fun g => .int g.size) (fun g hg => by have := part_deep hg; omega) (by omega)
    have s : biD .sum [.lst (f.parts.map fun g => D.int g.size)] st = some (.int (f.parts.map fun g => (g.size : Int)).sum, st) := by
      show (intsOf _).map _ = _
      rw [show f.parts.map (fun g => D.int g.size) = (f.parts.map fun g => (g.size : Int)).map D.int by rw [List.map_map]; rfl, intsOf_map]
      rfl
    have e : (1 : Int) + (f.parts.map fun g => (g.size : Int)).sum = f.size := by cases f <;> simp [Fm.parts, Fm.size] <;> omega
    simp only [ir_law_many, x_var, x_con, x_glob, x_tup, x_lst, x_bin, x_neg, x_inv, x_cmp, x_not, x_ite, x_ix, x_sl, x_call, x_bi, x_Es0, x_Es1, x_O0, x_O1, x_C0, x_asg, x_par2, x_aug, x_if, x_ret, x_ex, x_never, x_Ss0, x_Ss1, R.bind_some, List.getElem?_cons_zero, List.getElem?_cons_succ, List.set_cons_zero, List.set_cons_succ, Option.map_some, List.map_cons, List.map_nil, List.replicate, List.cons_append, List.nil_append, List.append_nil, Nat.sub_self, asg_nm, asg_tup, asgs_nil, asgs_cons, List.length_cons, List.length_nil, rd'_int, rd'_str, rd'_tup, rd_lst', rd_bl, rd_non, rd_scr, t_bl, t_int, t_non, Nat.reduceAdd, Nat.reduceLT, reduceIte, and_self, l, s, d_add, e]
  | succ n ih =>
    intro f hf k hk st
    obtain ⟨k, rfl⟩ : ∃ j, k = j + 2 := ⟨k - 2, by omega⟩
    refine run_rt rfl rfl ?_
    have l := lc_parts (k := k + 1) (st := st) (e := .call F_law_many [(.var 1)]) (f := f) (h := fun g => .int g.size) (fun g hg => by
      have := part_deep hg
      have e := ih g (by omega) (k + 1) (by omega) st
      simp only [x_var, x_con, x_glob, x_tup, x_lst, x_bin, x_neg, x_inv, x_cmp, x_not, x_ite, x_ix, x_sl, x_call, x_bi, x_Es0, x_Es1, x_O0, x_O1, x_C0, x_asg, x_par2, x_aug, x_if, x_ret, x_ex, x_never, x_Ss0, x_Ss1, R.bind_some, List.getElem?_cons_zero, List.getElem?_cons_succ, List.set_cons_zero, List.set_cons_succ, Option.map_some, List.map_cons, List.map_nil, List.replicate, List.cons_append, List.nil_append, List.append_nil, Nat.sub_self, asg_nm, asg_tup, asgs_nil, asgs_cons, List.length_cons, List.length_nil, rd'_int, rd'_str, rd'_tup, rd_lst', rd_bl, rd_non, rd_scr, t_bl, t_int, t_non, Nat.reduceAdd, Nat.reduceLT, reduceIte, and_self, e]) (by omega)
    have s : biD .sum [.lst (f.parts.map fun g => D.int g.size)] st = some (.int (f.parts.map fun g => (g.size : Int)).sum, st) := by
      show (intsOf _).map _ = _
      rw [show f.parts.map (fun g => D.int g.size) = (f.parts.map fun g => (g.size : Int)).map D.int by rw [List.map_map]; rfl, intsOf_map]
      rfl
    have e : (1 : Int) + (f.parts.map fun g => (g.size : Int)).sum = f.size := by cases f <;> simp [Fm.parts, Fm.size] <;> omega
    simp only [ir_law_many, x_var, x_con, x_glob, x_tup, x_lst, x_bin, x_neg, x_inv, x_cmp, x_not, x_ite, x_ix, x_sl, x_call, x_bi, x_Es0, x_Es1, x_O0, x_O1, x_C0, x_asg, x_par2, x_aug, x_if, x_ret, x_ex, x_never, x_Ss0, x_Ss1, R.bind_some, List.getElem?_cons_zero, List.getElem?_cons_succ, List.set_cons_zero, List.set_cons_succ, Option.map_some, List.map_cons, List.map_nil, List.replicate, List.cons_append, List.nil_append, List.append_nil, Nat.sub_self, asg_nm, asg_tup, asgs_nil, asgs_cons, List.length_cons, List.length_nil, rd'_int, rd'_str, rd'_tup, rd_lst', rd_bl, rd_non, rd_scr, t_bl, t_int, t_non, Nat.reduceAdd, Nat.reduceLT, reduceIte, and_self, l, s, d_add, e]
theorem ldeep_fin {f : Fm} {k : Nat} {st : Store} (he : ∀ g ∈ f.parts, cfN tab (k + 1) F_law_deep [g.d] st = some (.int g.deep, st)) : cfN tab (k + 2) F_law_deep [f.d] st = some (.int f.deep, st) := by
  refine run_rt rfl rfl ?_
  have l := lc_parts (k := k + 1) (st := st) (e := .bin .Add (.con (.int 1)) (.call F_law_deep [(.var 1)])) (f := f) (h := fun g => .int (1 + g.deep)) (fun g hg => by
    have e := he g hg
    simp only [x_var, x_con, x_glob, x_tup, x_lst, x_bin, x_neg, x_inv, x_cmp, x_not, x_ite, x_ix, x_sl, x_call, x_bi, x_Es0, x_Es1, x_O0, x_O1, x_C0, x_asg, x_par2, x_aug, x_if, x_ret, x_ex, x_never, x_Ss0, x_Ss1, R.bind_some, List.getElem?_cons_zero, List.getElem?_cons_succ, List.set_cons_zero, List.set_cons_succ, Option.map_some, List.map_cons, List.map_nil, List.replicate, List.cons_append, List.nil_append, List.append_nil, Nat.sub_self, asg_nm, asg_tup, asgs_nil, asgs_cons, List.length_cons, List.length_nil, rd'_int, rd'_str, rd'_tup, rd_lst', rd_bl, rd_non, rd_scr, t_bl, t_int, t_non, Nat.reduceAdd, Nat.reduceLT, reduceIte, and_self, e, d_add]) (by omega)
  have a : binD .Add (.lst [.int 0]) (.lst (f.parts.map fun g => D.int (1 + g.deep))) = some (.lst ((0 :: f.parts.map fun g => (1 + g.deep : Int)).map D.int)) := by
    refine (if_pos (lim10 ?_)).trans ?_
    · have := parts3 f
      simp
      omega
    · rw [List.map_cons, List.map_map]
      rfl
  have m : biD .max [.lst ((0 :: f.parts.map fun g => (1 + g.deep : Int)).map D.int)] st = some (.int f.deep, st) := by
    have e : maxI 0 (f.parts.map fun g => (1 + g.deep : Int)) = f.deep := by
      cases f <;> simp only [Fm.parts, Fm.deep, List.map_cons, List.map_nil, maxI] <;> (try rfl) <;> (repeat' split) <;> omega
    show (match intsOf ((0 :: f.parts.map fun g => (1 + g.deep : Int)).map D.int) with
      | some (a :: r) => some (D.int (maxI a r), st)
      | _ => none) = _
    rw [intsOf_map]
    show some (D.int (maxI 0 _), st) = _
    rw [e]
  have l' : evE (cfN tab (k + 1)) (.bin .Add (.lst [(.con (.int 0))]) (.lc false (.bin .Add (.con (.int 1)) (.call F_law_deep [(.var 1)])) (.nm 1) (.seq (.call F_law_own [(.var 0)])) none [1])) [some f.d, none] st = some (.lst ((0 :: f.parts.map fun g => (1 + g.deep : Int)).map D.int), st) := by
    exact bin_ok (x := .lst [.int 0]) (by simp only [x_var, x_con, x_glob, x_tup, x_lst, x_bin, x_neg, x_inv, x_cmp, x_not, x_ite, x_ix, x_sl, x_call, x_bi, x_Es0, x_Es1, x_O0, x_O1, x_C0, x_asg, x_par2, x_aug, x_if, x_ret, x_ex, x_never, x_Ss0, x_Ss1, R.bind_some, List.getElem?_cons_zero, List.getElem?_cons_succ, List.set_cons_zero, List.set_cons_succ, Option.map_some, List.map_cons, List.map_nil, List.replicate, List.cons_append, List.nil_append, List.append_nil, Nat.sub_self, asg_nm, asg_tup, asgs_nil, asgs_cons, List.length_cons, List.length_nil, rd'_int, rd'_str, rd'_tup, rd_lst', rd_bl, rd_non, rd_scr, t_bl, t_int, t_non, Nat.reduceAdd, Nat.reduceLT, reduceIte, and_self]) l a
  show evSs (cfN tab (k + 1)) [_] [some f.d, none] st = _
  refine Ss_rt ?_
  exact ret_ok (bi1_ok l' m)
theorem ldeep_ok : ∀ (n : Nat) (f : Fm), f.deep ≤ n → ∀ k, n + 2 ≤ k → ∀ st, cfN tab k F_law_deep [f.d] st = some (.int f.deep, st) := by
  intro n
  induction n with
  | zero =>
    intro f hf k hk st
    obtain ⟨k, rfl⟩ : ∃ j, k = j + 2 := ⟨k - 2, by omega⟩
    exact ldeep_fin fun g hg => by have := part_deep hg; omega
  | succ n ih =>
    intro f hf k hk st
    obtain ⟨k, rfl⟩ : ∃ j, k = j + 2 := ⟨k - 2, by omega⟩
    exact ldeep_fin fun g hg => by
      have := part_deep hg
      exact ih g (by omega) (k + 1) (by omega) st
/-! ### the names of a formula -/
def notIn (found : List Str) : D → Bool
  | .str x => !decide (x ∈ found)
  | _ => false
/-! ### all rows -/
abbrev rb : List S := [.asg (.nm 1) (.bin .Add (.var 1) (.lc false (.bin .Add (.var 4) (.tup [(.var 2)])) (.nm 4) (.seq (.var 1)) none [4]))]
def snocD (s : Str) : D → D
  | .tup xs => .tup (xs ++ [.str s])
  | d => d
theorem rows_step {cf : CF} {rows : List (List Str)} {s : Str} {o0 o3 o4 o5 : Option D} (hl : rows.length ≤ 2000) (hr : ∀ r ∈ rows, r.length ≤ 1000) : evSs cf rb [o0, some (.lst (rows.map rowD)), some (.str s), o3, o4, o5] st = some (.nx [o0, some (.lst ((subStep rows s).map rowD)), some (.str s), o3, o4, o5], st) := by
  have hi : evI cf (.seq (.var 1)) [o0, some (.lst (rows.map rowD)), some (.str s), o3, o4, o5] st = some (rows.map rowD, st) := by
    rw [x_seq]
    simp only [x_var, x_con, x_glob, x_tup, x_lst, x_bin, x_neg, x_inv, x_cmp, x_not, x_ite, x_ix, x_sl, x_call, x_bi, x_Es0, x_Es1, x_O0, x_O1, x_C0, x_asg, x_par2, x_aug, x_if, x_ret, x_ex, x_never, x_Ss0, x_Ss1, R.bind_some, List.getElem?_cons_zero, List.getElem?_cons_succ, List.set_cons_zero, List.set_cons_succ, Option.map_some, List.map_cons, List.map_nil, List.replicate, List.cons_append, List.nil_append, List.append_nil, Nat.sub_self, asg_nm, asg_tup, asgs_nil, asgs_cons, List.length_cons, List.length_nil, rd'_int, rd'_str, rd'_tup, rd_lst', rd_bl, rd_non, rd_scr, t_bl, t_int, t_non, Nat.reduceAdd, Nat.reduceLT, reduceIte, and_self, itemsOf]
  have h1 : evE cf (.lc false (.bin .Add (.var 4) (.tup [(.var 2)])) (.nm 4) (.seq (.var 1)) none [4]) [o0, some (.lst (rows.map rowD)), some (.str s), o3, o4, o5] st = some (.lst ((rows.map fun r => r ++ [s]).map rowD), st) := by
    rw [x_lcp (h := snocD s) hi (lim10 (by rw [List.length_map]; omega)) (fun d hd => ?_), List.map_map, List.map_map]
    · refine congrArg (fun l => some (D.lst l, st)) (List.map_congr_left fun r _ => ?_)
      show D.tup (r.map D.str ++ [.str s]) = D.tup ((r ++ [s]).map D.str)
      rw [List.map_append]
      rfl
    · obtain ⟨r, hr', rfl⟩ := List.mem_map.mp hd
      have b : binD .Add (.tup (r.map D.str)) (.tup [.str s]) = some (.tup (r.map D.str ++ [.str s])) := if_pos (lim10 (by have := hr r hr'; simp; omega))
      refine ⟨[o0, some (.lst (rows.map rowD)), some (.str s), o3, some (rowD r), o5], rfl, ?_⟩
      simp only [x_var, x_con, x_glob, x_tup, x_lst, x_bin, x_neg, x_inv, x_cmp, x_not, x_ite, x_ix, x_sl, x_call, x_bi, x_Es0, x_Es1, x_O0, x_O1, x_C0, x_asg, x_par2, x_aug, x_if, x_ret, x_ex, x_never, x_Ss0, x_Ss1, R.bind_some, List.getElem?_cons_zero, List.getElem?_cons_succ, List.set_cons_zero, List.set_cons_succ, Option.map_some, List.map_cons, List.map_nil, List.replicate, List.cons_append, List.nil_append, List.append_nil, Nat.sub_self, asg_nm, asg_tup, asgs_nil, asgs_cons, List.length_cons, List.length_nil, rd'_int, rd'_str, rd'_tup, rd_lst', rd_bl, rd_non, rd_scr, t_bl, t_int, t_non, Nat.reduceAdd, Nat.reduceLT, reduceIte, and_self, rowD, b, snocD]
  have h2 : binD .Add (.lst (rows.map rowD)) (.lst ((rows.map fun r => r ++ [s]).map rowD)) = some (.lst ((subStep rows s).map rowD)) := by
    unfold subStep
    rw [List.map_append]
    exact if_pos (lim10 (by simp; omega))
  have h3 : evE cf (.bin .Add (.var 1) (.lc false (.bin .Add (.var 4) (.tup [(.var 2)])) (.nm 4) (.seq (.var 1)) none [4])) [o0, some (.lst (rows.map rowD)), some (.str s), o3, o4, o5] st = some (.lst ((subStep rows s).map rowD), st) := by
    exact bin_ok (var_ok rfl) h1 h2
  rw [Ss_nx (env1 := [o0, some (.lst ((subStep rows s).map rowD)), some (.str s), o3, o4, o5]) (by rw [x_asg, h3]; rfl), x_Ss0]
theorem rows_loop {cf : CF} {o0 o3 o4 o5 : Option D} : ∀ (ss : List Str) (rows : List (List Str)) (o2 : Option D), rows.length * 2 ^ ss.length ≤ 1024 → (∀ r ∈ rows, r.length + ss.length ≤ 100) →
    ∃ o2', evFor (.nm 2) (fun env st => evSs cf rb env st) (ss.map D.str) [o0, some (.lst (rows.map rowD)), o2, o3, o4, o5] st = some (.nx [o0, some (.lst ((ss.foldl subStep rows).map rowD)), o2', o3, o4, o5], st)
  | [], rows, o2, _, _ => ⟨o2, rfl⟩
  | s :: ss, rows, o2, hl, hr => by
    have hp := Nat.two_pow_pos ss.length
    rw [List.length_cons, Nat.pow_succ] at hl
    have e : (subStep rows s).length = 2 * rows.length := by
      unfold subStep
      rw [List.length_append, List.length_map]
      omega
    have hl2 : (subStep rows s).length * 2 ^ ss.length ≤ 1024 := by
      rw [e]
      calc 2 * rows.length * 2 ^ ss.length = rows.length * (2 ^ ss.length * 2) := by ac_rfl
        _ ≤ 1024 := hl
    have hl3 : rows.length ≤ 1024 := Nat.le_trans (Nat.le_mul_of_pos_right _ (by omega)) hl
    have hr2 : ∀ r ∈ subStep rows s, r.length + ss.length ≤ 100 := fun r h => by
      rcases List.mem_append.mp h with h | h
      · have := hr r h
        rw [List.length_cons] at this
        omega
      · obtain ⟨q, hq, rfl⟩ := List.mem_map.mp h
        have := hr q hq
        rw [List.length_cons] at this
        rw [List.length_append, List.length_singleton]
        omega
    obtain ⟨o2', ih⟩ := rows_loop ss (subStep rows s) (some (.str s)) hl2 hr2
    refine ⟨o2', ?_⟩
    rw [List.map_cons, evFor]
    show R.bind (evSs cf rb [o0, some (.lst (rows.map rowD)), some (.str s), o3, o4, o5] st) _ = _
    rw [rows_step (by omega) (fun r h => by have := hr r h; omega), R.bind_some]
    exact ih
theorem subsL_len (S : List Str) : (subsL S).length = 2 ^ S.length := by
  have go : ∀ (ss : List Str) (rows : List (List Str)), (ss.foldl subStep rows).length = rows.length * 2 ^ ss.length := by
    intro ss
    induction ss with
    | nil => intro rows; simp
    | cons s ss ih =>
      intro rows
      rw [List.foldl_cons, ih]
      unfold subStep
      rw [List.length_append, List.length_map, List.length_cons, Nat.pow_succ, ← Nat.two_mul]
      ac_rfl
  unfold subsL
  rw [go]
  simp
theorem lrows_ok {L : List Str} (ho : OrdOk L) : cfN tab (k + 1) F_law_rows [rowD L] st = some (.lst ((srtR (subsL (srt L))).map rowD), st) := by
  refine run_rt rfl rfl ?_
  have hs := sort_strs (ss := L) ho.ok (lim10 (by have := ho.len; omega))
  rw [srt_map] at hs
  have h10 := pw10 ho.len
  obtain ⟨o2, hl⟩ := rows_loop (st := st) (cf := cfN tab k) (o0 := some (rowD L)) (o3 := none) (o4 := none) (o5 := none) (srt L) [[]] none (by rw [srt_len]; simpa using h10) (fun r hr => by rw [List.mem_singleton.mp hr, srt_len]; have := ho.len; simp; omega)
  have s1 : evS (cfN tab k) (.asg (.nm 1) (.lst [(.tup [])])) [some (rowD L), none, none, none, none, none] st = some (.nx [some (rowD L), some (.lst [.tup []]), none, none, none, none], st) := by
    simp only [x_var, x_con, x_glob, x_tup, x_lst, x_bin, x_neg, x_inv, x_cmp, x_not, x_ite, x_ix, x_sl, x_call, x_bi, x_Es0, x_Es1, x_O0, x_O1, x_C0, x_asg, x_par2, x_aug, x_if, x_ret, x_ex, x_never, x_Ss0, x_Ss1, R.bind_some, List.getElem?_cons_zero, List.getElem?_cons_succ, List.set_cons_zero, List.set_cons_succ, Option.map_some, List.map_cons, List.map_nil, List.replicate, List.cons_append, List.nil_append, List.append_nil, Nat.sub_self, asg_nm, asg_tup, asgs_nil, asgs_cons, List.length_cons, List.length_nil, rd'_int, rd'_str, rd'_tup, rd_lst', rd_bl, rd_non, rd_scr, t_bl, t_int, t_non, Nat.reduceAdd, Nat.reduceLT, reduceIte, and_self]
  have s2 : evS (cfN tab k) (.for_ (.nm 2) (.seq (.bi .sorted [(.var 0)])) rb) [some (rowD L), some (.lst [.tup []]), none, none, none, none] st = some (.nx [some (rowD L), some (.lst ((subsL (srt L)).map rowD)), o2, none, none, none], st) := by
    have hb : biD .sorted [rowD L] st = some (.lst ((srt L).map D.str), st) := by
      show (sortD _).map _ = _
      rw [hs]
      rfl
    have hi : evI (cfN tab k) (.seq (.bi .sorted [(.var 0)])) [some (rowD L), some (.lst [.tup []]), none, none, none, none] st = some ((srt L).map D.str, st) := by
      rw [x_seq]
      simp only [x_var, x_con, x_glob, x_tup, x_lst, x_bin, x_neg, x_inv, x_cmp, x_not, x_ite, x_ix, x_sl, x_call, x_bi, x_Es0, x_Es1, x_O0, x_O1, x_C0, x_asg, x_par2, x_aug, x_if, x_ret, x_ex, x_never, x_Ss0, x_Ss1, R.bind_some, List.getElem?_cons_zero, List.getElem?_cons_succ, List.set_cons_zero, List.set_cons_succ, Option.map_some, List.map_cons, List.map_nil, List.replicate, List.cons_append, List.nil_append, List.append_nil, Nat.sub_self, asg_nm, asg_tup, asgs_nil, asgs_cons, List.length_cons, List.length_nil, rd'_int, rd'_str, rd'_tup, rd_lst', rd_bl, rd_non, rd_scr, t_bl, t_int, t_non, Nat.reduceAdd, Nat.reduceLT, reduceIte, and_self, hb, itemsOf]
    rw [x_for, hi, R.bind_some]
    exact hl
  have hok2 : ∀ r ∈ subsL (srt L), ∀ s ∈ r, okS s := fun r hr s hs' => ho.ok s (srt_mem.mp (((subsL_mem _ r).mp hr).subset hs'))
  have hlim : (subsL (srt L)).length ≤ LIM := lim10 (by rw [subsL_len, srt_len]; omega)
  have h2 := keyed_ok (cf := cfN tab k) (st := st) (rs := subsL (srt L)) (env := [some (rowD L), some (.lst ((subsL (srt L)).map rowD)), o2, none, none, none]) (i := 1) (a := 4) (b := 4) rfl (by decide) (by simp) hok2 hlim
  have h3 := unkey_ok (cf := cfN tab k) (st := st) (rs := srtR (subsL (srt L))) (env := [some (rowD L), some (.lst ((subsL (srt L)).map rowD)), o2, some (.lst ((srtR (subsL (srt L))).map keyR)), none, none]) (i := 3) (a := 5) (b := 4) (own := [4, 5]) rfl (by decide) (by simp) (by simp) (by rw [srtR_len]; exact hlim)
  show evSs (cfN tab k) [_, _, _, _] [some (rowD L), none, none, none, none, none] st = _
  rw [Ss_nx s1, Ss_nx s2, Ss_nx (by rw [x_asg, h2]; rfl)]
  refine Ss_rt ?_
  rw [x_ret]
  show R.bind (evE (cfN tab k) _ [some (rowD L), some (.lst ((subsL (srt L)).map rowD)), o2, some (.lst ((srtR (subsL (srt L))).map keyR)), none, none] st) _ = _
  rw [h3]
  rfl
end
end Kw

set_option Elab.async false
set_option linter.all false
set_option maxRecDepth 100000
set_option maxHeartbeats 2000000
/-! Law k03: _law_right. -/
namespace Kw
open PySem
/-! ### what repr writes -/
def lowS (x : Str) : Prop := ∀ c ∈ x.cps.toList, c < 1114112
theorem lowS.ok {x : Str} (h : lowS x) : okS x := by
  unfold okS PyData.strOk
  rw [← Array.all_toList, List.all_eq_true]
  exact fun c hc => decide_eq_true (h c hc)
theorem lowS.app {x y : Str} (hx : lowS x) (hy : lowS y) : lowS (x ++ y) := by
  intro c hc
  have e : (x ++ y).cps.toList = x.cps.toList ++ y.cps.toList := Array.toList_append
  rw [e] at hc
  exact (List.mem_append.mp hc).elim (hx c) (hy c)
theorem lowS.join {sep : Str} (hs : lowS sep) : ∀ {ts : List Str}, (∀ t ∈ ts, lowS t) → lowS (Str.join sep ts)
  | [], _ => fun c hc => by cases hc
  | [t], h => h t List.mem_cons_self
  | t :: u :: ts, h => ((h t List.mem_cons_self).app hs).app (lowS.join hs fun v hv => h v (List.mem_cons_of_mem _ hv))
theorem low_lit : lowS "[" ∧ lowS "]" ∧ lowS "(" ∧ lowS ",)" ∧ lowS ")" ∧ lowS ", " := by
  refine ⟨?_, ?_, ?_, ?_, ?_, ?_⟩ <;> (unfold lowS; decide +kernel)
theorem low_list {ts : List Str} (h : ∀ t ∈ ts, lowS t) : lowS (listText ts) := by
  rw [listText_eq_join]
  obtain ⟨h1, h2, _, _, _, h6⟩ := low_lit
  exact (h1.app (.join h6 h)).app h2
theorem low_tup {ts : List Str} (h : ∀ t ∈ ts, lowS t) : lowS (tupleText ts) := by
  unfold tupleText
  obtain ⟨_, _, h3, h4, h5, h6⟩ := low_lit
  refine (h3.app (.join h6 h)).app ?_
  split
  · exact h4
  · exact h5
theorem fold_low (q : Nat) : ∀ (l : List Nat) (acc : Array Nat), (∀ c ∈ acc.toList, c < 1114112) → (∀ c ∈ l, ∀ e ∈ Builtin.Str.reprChar q c, e < 1114112) → ∀ c ∈ (l.foldl (fun out c => out ++ (Builtin.Str.reprChar q c).toArray) acc).toList, c < 1114112
  | [], acc, h, _ => h
  | x :: l, acc, h, hl => by
    rw [List.foldl_cons]
    refine fold_low q l _ (fun c hc => ?_) fun c hc => hl c (List.mem_cons_of_mem _ hc)
    rw [Array.toList_append] at hc
    exact (List.mem_append.mp hc).elim (h c) fun hc => hl x List.mem_cons_self c (by simpa using hc)
theorem quote_or (x : Str) : reprQuote x = 39 ∨ reprQuote x = 34 := by
  unfold reprQuote
  split <;> simp
theorem char_low : ∀ c, c < 123 → 97 ≤ c → (∀ e ∈ Builtin.Str.reprChar 39 c, e < 1114112) ∧ ∀ e ∈ Builtin.Str.reprChar 34 c, e < 1114112 := by decide +kernel
theorem low_repr {x : Str} (h : Nm x) : lowS (reprText x) := by
  unfold reprText lowS
  intro c hc
  have hq : reprQuote x < 1114112 := by rcases quote_or x with e | e <;> omega
  rw [Array.toList_push, ← Array.foldl_toList] at hc
  rcases List.mem_append.mp hc with hc | hc
  · refine fold_low _ _ _ (fun c hc => ?_) (fun c hc e he => ?_) c hc
    · have : c = reprQuote x := by simpa using hc
      omega
    · have hh := char_low c (by have := (h.2.2 c hc).2; omega) (h.2.2 c hc).1
      rcases quote_or x with q | q
      · rw [q] at he
        exact hh.1 e he
      · rw [q] at he
        exact hh.2 e he
  · rw [List.mem_singleton.mp hc]
    exact hq
theorem pys_map : ∀ ds : List D, D.pys ds = ds.map D.py
  | [] => rfl
  | d :: ds => by rw [D.pys, pys_map ds]; rfl
theorem row_shown (r : List Str) : (rowD r).py.shown = tupleText (r.map reprText) := by
  unfold rowD
  rw [D.py, PyData.shown, pys_map, List.map_map, PyProof.Rows.shownAll_eq_map, List.map_map]
  refine congrArg tupleText (List.map_congr_left fun s _ => ?_)
  show (PyData.str s).shown = _
  rw [PyData.shown]
theorem rows_shown (rs : List (List Str)) : (D.lst (rs.map rowD)).py.shown = listText (rs.map fun r => tupleText (r.map reprText)) := by
  rw [D.py, PyData.shown, pys_map, List.map_map, PyProof.Rows.shownAll_eq_map, List.map_map]
  exact congrArg listText (List.map_congr_left fun r _ => row_shown r)
theorem sum_le {α : Type} {f : α → Nat} {b : Nat} : ∀ {l : List α}, (∀ x ∈ l, f x ≤ b) → (l.map f).sum ≤ b * l.length
  | [], _ => by simp
  | x :: l, h => by
    have := sum_le (l := l) fun y hy => h y (List.mem_cons_of_mem _ hy)
    have := h x List.mem_cons_self
    rw [List.map_cons, List.sum_cons, List.length_cons, Nat.mul_succ]
    omega
theorem repr_len {x : Str} (h : Nm x) : (reprText x).length ≤ 82 := by
  have := StrLaws.reprText_len x fun c hc => by have := (h.2.2 c hc).2; omega
  have := h.2.1
  omega
theorem row_len {r : List Str} (h : ∀ s ∈ r, Nm s) (hl : r.length ≤ 10) : (tupleText (r.map reprText)).length ≤ 850 := by
  have h1 := tupleText_len_le (r.map reprText)
  have h2 : ((r.map reprText).map (·.length)).sum ≤ 82 * r.length := by
    rw [List.map_map]
    exact sum_le (b := 82) (f := fun s => (reprText s).length) fun s hs => repr_len (h s hs)
  rw [List.length_map] at h1
  omega
theorem showable_row (r : List Str) : (rowD r).py.showable = true := by
  unfold rowD
  rw [D.py, PyData.showable, pys_map]
  induction r with
  | nil => rfl
  | cons s r ih =>
    rw [List.map_cons, List.map_cons, PyData.showableAll, ih]
    rfl
theorem showable_rows (rs : List (List Str)) : (D.lst (rs.map rowD)).py.showable = true := by
  rw [D.py, PyData.showable, pys_map]
  induction rs with
  | nil => rfl
  | cons r rs ih =>
    rw [List.map_cons, List.map_cons, PyData.showableAll, ih, showable_row]
    rfl
def RowsOk (rs : List (List Str)) : Prop := rs.length ≤ 1024 ∧ ∀ r ∈ rs, r.length ≤ 10 ∧ ∀ s ∈ r, Nm s
theorem RowsOk.pls {rs} (h : RowsOk rs) : Pls 1 (rs.map rowD) := .of fun d hd => by
  obtain ⟨r, hr, rfl⟩ := List.mem_map.mp hd
  exact pl_row fun s hs => ((h.2 r hr).2 s hs).ok
theorem rows_len {rs : List (List Str)} (h : RowsOk rs) : (listText (rs.map fun r => tupleText (r.map reprText))).length ≤ LIM := by
  have h0 : ∀ t ∈ rs.map fun r => tupleText (r.map reprText), t.length ≤ 850 := fun t ht => by
    obtain ⟨r, hr, rfl⟩ := List.mem_map.mp ht
    exact row_len (h.2 r hr).2 (h.2 r hr).1
  have hn : (rs.map fun r => tupleText (r.map reprText)).length ≤ 1024 := by
    rw [List.length_map]
    exact h.1
  generalize rs.map (fun r => tupleText (r.map reprText)) = ts at h0 hn
  have h1 := listText_len_le ts
  have h2 := sum_le (f := fun t : Str => t.length) h0
  generalize (listText ts).length = x at *
  unfold LIM
  omega
theorem repr_rows {rs : List (List Str)} {st : Store} (h : RowsOk rs) : ∃ T, biD .repr [.lst (rs.map rowD)] st = some (.str T, st) ∧ okS T := by
  refine ⟨(D.lst (rs.map rowD)).py.shown, ?_, ?_⟩
  · have h1 : eqOk (.lst (rs.map rowD)) = true := Pl.eqOk (.lst h.pls) (by omega)
    have h2 : (D.lst (rs.map rowD)).py.shown.length ≤ LIM := by
      rw [rows_shown]
      exact rows_len h
    show (if _ then _ else _) = _
    rw [if_pos (by rw [h1, decide_eq_true h2, showable_rows]; rfl)]
  · rw [rows_shown]
    refine (low_list fun t ht => ?_).ok
    obtain ⟨r, hr, rfl⟩ := List.mem_map.mp ht
    refine low_tup fun t ht => ?_
    obtain ⟨s, hs, rfl⟩ := List.mem_map.mp ht
    exact low_repr ((h.2 r hr).2 s hs)
def boolT (b : Bool) : Str := if b then "True" else "False"
theorem repr_bl {b : Bool} {st : Store} : biD .repr [.bl b] st = some (.str (boolT b), st) := by
  cases b <;> kernel_rfl
theorem boolT_ok (b : Bool) : okS (boolT b) := by cases b <;> (unfold okS; decide +kernel)
theorem row_inj {r q : List Str} (h : rowD r = rowD q) : r = q := by
  unfold rowD at h
  injection h with h
  exact (List.map_inj_right fun a b e => by injection e).mp h
theorem in_rows {r : List Str} {rs : List (List Str)} {st : Store} (hr : ∀ s ∈ r, Nm s) (h : RowsOk rs) : cmpD .In st (rowD r) (.lst (rs.map rowD)) = some (decide (r ∈ rs)) := by
  have h1 : eqOk (rowD r) = true := Pl.eqOk (pl_row fun s hs => (hr s hs).ok) (by omega)
  have h2 : eqOk (.lst (rs.map rowD)) = true := Pl.eqOk (.lst h.pls) (by omega)
  show inD (rowD r) (.lst (rs.map rowD)) = _
  show (if eqOk (rowD r) && eqOk (.lst (rs.map rowD)) then some _ else none) = _
  rw [if_pos (by rw [h1, h2]; rfl)]
  congr 1
  rw [Bool.eq_iff_iff, List.any_eq_true, decide_eq_true_eq]
  constructor
  · rintro ⟨d, hd, he⟩
    obtain ⟨q, hq, rfl⟩ := List.mem_map.mp hd
    have := (Pl.eqv (pl_row fun s hs => ((h.2 q hq).2 s hs).ok) (pl_row fun s hs => (hr s hs).ok)).mp he
    rw [← row_inj this]
    exact hq
  · intro hq
    exact ⟨rowD r, List.mem_map.mpr ⟨r, hq, rfl⟩, (Pl.eqv (pl_row fun s hs => (hr s hs).ok) (pl_row fun s hs => (hr s hs).ok)).mpr rfl⟩
def rowP (f : Fm) : D → Bool
  | .tup ds => f.ev fun x => ds.any fun d => match d with
    | .str s => decide (s = x)
    | _ => false
  | _ => false
theorem rowP_row (f : Fm) (r : List Str) : rowP f (rowD r) = rowOk f r := by
  refine Fm.ev_congr f fun x _ => ?_
  rw [Bool.eq_iff_iff, List.any_eq_true, decide_eq_true_eq]
  constructor
  · rintro ⟨d, hd, h⟩
    obtain ⟨s, hs, rfl⟩ := List.mem_map.mp hd
    rw [← of_decide_eq_true h]
    exact hs
  · intro h
    exact ⟨.str x, List.mem_map.mpr ⟨x, h, rfl⟩, decide_eq_true rfl⟩
end Kw

set_option Elab.async false
set_option linter.all false
set_option maxRecDepth 100000
set_option maxHeartbeats 1000000
/-! Law k03: the drawing. -/
namespace Kw
open PySem
def kvS (ns : List Int) (a : Int) : List (L2.Key × D) := [(.inr "cells", .scr ns), (.inr "left", .ref 0), (.inr "at", .int a)]
def DS (ns xs : List Int) (a : Int) (rest : Store) : Store := .lst (xs.map D.int) :: .dK (kvS ns a) :: rest
def Sx (ns : List Int) (rest st : Store) : Prop := ∃ (xs : List Int) (a : Int), xs.length = ns.length ∧ 0 ≤ a ∧ st = DS ns xs a rest
theorem okMul_l {i j : Int} (h1 : -(2 ^ 64) < i) (h2 : i < 2 ^ 64) : okMul i j = true := by
  unfold okMul
  rw [decide_eq_true h1, decide_eq_true h2]
  rfl
theorem d_mul {i j : Int} (h : okMul i j = true) : binD .Mult (.int i) (.int j) = some (.int (i * j)) := if_pos h
theorem d_mod {i j : Int} (h : 0 < j) : binD .Mod (.int i) (.int j) = some (.int (i % j)) := if_pos h
theorem d_fdiv {i j : Int} (h : 0 < j) (h2 : j < 1073741824) : binD .FloorDiv (.int i) (.int j) = some (.int (i / j)) := if_pos ⟨h, h2⟩
section
variable {k : Nat} {st : Store}
theorem mixed_ok {c q : Int} (h0 : 0 ≤ q) (h1 : q ≤ 1000) : ∃ m : Int, cfN tab (k + 1) F_law_mixed [.int c, .int q] st = some (.int m, st) := by
  have m1 : binD .Mod (.int c) (.int 2147483647) = some (.int (c % 2147483647)) := d_mod (by decide)
  have m2 : binD .Mult (.int 2) (.int q) = some (.int (2 * q)) := d_mul (okMul_l (by decide) (by decide))
  have m3 : binD .Mult (.int (2 * q)) (.int q) = some (.int (2 * q * q)) := d_mul (okMul_l (by omega) (by omega))
  have m4 : binD .Mult (.int (c % 2147483647)) (.int (48271 + 2 * q * q)) = some (.int (c % 2147483647 * (48271 + 2 * q * q))) := d_mul (okMul_l (by omega) (by omega))
  have m5 : binD .Mult (.int 69621) (.int q) = some (.int (69621 * q)) := d_mul (okMul_l (by decide) (by decide))
  have m6 : binD .Mod (.int (c % 2147483647 * (48271 + 2 * q * q) + 69621 * q + 11)) (.int 2147483647) = some (.int ((c % 2147483647 * (48271 + 2 * q * q) + 69621 * q + 11) % 2147483647)) := d_mod (by decide)
  generalize c % 2147483647 * (48271 + 2 * q * q) = z at *
  have m7 : binD .Mult (.int ((z + 69621 * q + 11) % 2147483647)) (.int 69621) = some (.int ((z + 69621 * q + 11) % 2147483647 * 69621)) := d_mul (okMul_l (by omega) (by omega))
  have m8 : binD .Mod (.int ((z + 69621 * q + 11) % 2147483647 * 69621)) (.int 2147483629) = some (.int ((z + 69621 * q + 11) % 2147483647 * 69621 % 2147483629)) := d_mod (by decide)
  refine ⟨(z + 69621 * q + 11) % 2147483647 * 69621 % 2147483629, run_rt rfl rfl ?_⟩
  simp only [ir_law_mixed, x_var, x_con, x_glob, x_tup, x_lst, x_bin, x_neg, x_inv, x_cmp, x_not, x_ite, x_ix, x_sl, x_call, x_bi, x_Es0, x_Es1, x_O0, x_O1, x_C0, x_asg, x_par2, x_aug, x_if, x_ret, x_ex, x_never, x_Ss0, x_Ss1, R.bind_some, List.getElem?_cons_zero, List.getElem?_cons_succ, List.set_cons_zero, List.set_cons_succ, Option.map_some, List.map_cons, List.map_nil, List.replicate, List.cons_append, List.nil_append, List.append_nil, Nat.sub_self, asg_nm, asg_tup, asgs_nil, asgs_cons, List.length_cons, List.length_nil, rd'_int, rd'_str, rd'_tup, rd_lst', rd_bl, rd_non, rd_scr, t_bl, t_int, t_non, Nat.reduceAdd, Nat.reduceLT, reduceIte, and_self, m1, m2, m3, d_add, m4, m5, m6, m7, m8]
variable {ns xs : List Int} {a : Int} {rest : Store}
theorem ix_at : ixD (DS ns xs a rest) (.ref 1) (.str "at") = some (.int a) := by kernel_rfl
theorem ix_cells : ixD (DS ns xs a rest) (.ref 1) (.str "cells") = some (.scr ns) := by kernel_rfl
theorem ix_left : ixD (DS ns xs a rest) (.ref 1) (.str "left") = some (.ref 0) := by kernel_rfl
theorem sub_at {b : Int} : subD (.ref 1) (.str "at") (.int b) (DS ns xs a rest) = some (DS ns xs b rest) := by kernel_rfl
theorem at_int {j : Nat} (h : j < xs.length) : L2.atI (xs.map D.int) (j : Int) = some (.int xs[j]) := by
  unfold L2.atI
  rw [ixN_nat' (by rw [List.length_map]; exact h)]
  show (xs.map D.int)[j]? = _
  rw [List.getElem?_map, List.getElem?_eq_getElem h]
  rfl
theorem ix_l0 {j : Nat} (h : j < xs.length) : ixD (DS ns xs a rest) (.ref 0) (.int j) = some (.int xs[j]) := at_int h
theorem sub_l0 {j : Nat} {x : Int} (h : j < xs.length) : subD (.ref 0) (.int j) (.int x) (DS ns xs a rest) = some (DS ns (xs.set j x) a rest) := by
  have e : L2.ixN (xs.map D.int).length (j : Int) = some j := ixN_nat' (by rw [List.length_map]; exact h)
  unfold subD DS
  simp only [List.getElem?_cons_zero, e, D.clean, if_true, List.set_cons_zero]
  rw [List.map_set]
theorem ix_scr {j : Nat} (h : j < ns.length) : ixD (DS ns xs a rest) (.scr ns) (.int j) = some (.int ns[j]) := by
  show (L2.atI ns (j : Int)).map D.int = _
  unfold L2.atI
  rw [ixN_nat' h]
  show (ns[j]?).map D.int = _
  rw [List.getElem?_eq_getElem h]
  rfl
theorem scr_py (ns : List Int) : (D.scr ns).py = (D.lst (ns.map D.int)).py := by
  rw [D.py, D.py, pys_map, List.map_map]
  rfl
theorem scr_nil {st : Store} : cmpD .Eq st (.scr ns) (.lst []) = some ns.isEmpty := by
  have h1 : eqOk (.scr ns) = true := by
    have := Pl.eqOk (d := .lst (ns.map D.int)) (n := 1) (.lst (.of fun d hd => by
      obtain ⟨i, _, rfl⟩ := List.mem_map.mp hd
      exact .int _ i)) (by omega)
    unfold eqOk at this ⊢
    rw [Bool.and_eq_true] at this ⊢
    exact ⟨rfl, by rw [scr_py]; exact this.2⟩
  rw [cmpEq (x := .scr ns) (y := .lst []) h1 (Pl.eqOk (.lst (.nil 0)) (by omega))]
  show some (PyData.eqv (D.scr ns).py _) = _
  rw [scr_py]
  show some (PyData.eqv (D.lst (ns.map D.int)).py (D.lst []).py) = _
  rw [eqv_nil]
  cases ns <;> rfl
theorem len_scr {st : Store} : biD .len [.scr ns] st = some (.int ns.length, st) := rfl
theorem draw_ok {many : Int} (hm : 0 < many) (hm2 : many < 1073741824) (h : Sx ns rest st) : ∃ (r : Int) (st' : Store), cfN tab (k + 2) F_law_draw [.ref 1, .int many] st = some (.int r, st') ∧ 0 ≤ r ∧ r < many ∧ Sx ns rest st' := by
  obtain ⟨xs, a, hx, ha, rfl⟩ := h
  have go : ∀ (r : Int) (xs' : List Int), xs'.length = ns.length → 0 ≤ r → r < many → evSs (cfN tab (k + 1)) (ir_law_draw.body.drop 2) [some (.ref 1), some (.int many), some (.int (a + 1)), none, none] (DS ns xs (a + 1) rest) = some (.rt (.int r), DS ns xs' (a + 1) rest) →
      ∃ (r : Int) (st' : Store), cfN tab (k + 2) F_law_draw [.ref 1, .int many] (DS ns xs a rest) = some (.int r, st') ∧ 0 ≤ r ∧ r < many ∧ Sx ns rest st' := fun r xs' hl h0 h1 e => by
    refine ⟨r, DS ns xs' (a + 1) rest, ?_, h0, h1, xs', a + 1, hl, by omega, rfl⟩
    have s1 : evS (cfN tab (k + 1)) (.sub (.var 0) (.con (.str "at")) (.bin .Add (.ix (.var 0) (.con (.str "at"))) (.con (.int 1)))) [some (.ref 1), some (.int many), none, none, none] (DS ns xs a rest) = some (.nx [some (.ref 1), some (.int many), none, none, none], DS ns xs (a + 1) rest) := by
      rw [x_sub]
      simp only [x_var, x_con, x_glob, x_tup, x_lst, x_bin, x_neg, x_inv, x_cmp, x_not, x_ite, x_ix, x_sl, x_call, x_bi, x_Es0, x_Es1, x_O0, x_O1, x_C0, x_asg, x_par2, x_aug, x_if, x_ret, x_ex, x_never, x_Ss0, x_Ss1, R.bind_some, List.getElem?_cons_zero, List.getElem?_cons_succ, List.set_cons_zero, List.set_cons_succ, Option.map_some, List.map_cons, List.map_nil, List.replicate, List.cons_append, List.nil_append, List.append_nil, Nat.sub_self, asg_nm, asg_tup, asgs_nil, asgs_cons, List.length_cons, List.length_nil, rd'_int, rd'_str, rd'_tup, rd_lst', rd_bl, rd_non, rd_scr, t_bl, t_int, t_non, Nat.reduceAdd, Nat.reduceLT, reduceIte, and_self, ix_at, d_add, sub_at]
    have s2 : evS (cfN tab (k + 1)) (.asg (.nm 2) (.ix (.var 0) (.con (.str "at")))) [some (.ref 1), some (.int many), none, none, none] (DS ns xs (a + 1) rest) = some (.nx [some (.ref 1), some (.int many), some (.int (a + 1)), none, none], DS ns xs (a + 1) rest) := by
      simp only [x_var, x_con, x_glob, x_tup, x_lst, x_bin, x_neg, x_inv, x_cmp, x_not, x_ite, x_ix, x_sl, x_call, x_bi, x_Es0, x_Es1, x_O0, x_O1, x_C0, x_asg, x_par2, x_aug, x_if, x_ret, x_ex, x_never, x_Ss0, x_Ss1, R.bind_some, List.getElem?_cons_zero, List.getElem?_cons_succ, List.set_cons_zero, List.set_cons_succ, Option.map_some, List.map_cons, List.map_nil, List.replicate, List.cons_append, List.nil_append, List.append_nil, Nat.sub_self, asg_nm, asg_tup, asgs_nil, asgs_cons, List.length_cons, List.length_nil, rd'_int, rd'_str, rd'_tup, rd_lst', rd_bl, rd_non, rd_scr, t_bl, t_int, t_non, Nat.reduceAdd, Nat.reduceLT, reduceIte, and_self, ix_at]
    have e2 : evSs (cfN tab (k + 1)) ir_law_draw.body ([D.ref 1, .int many].map some ++ List.replicate (ir_law_draw.nn - ir_law_draw.np) none) (DS ns xs a rest) = some (.rt (.int r), DS ns xs' (a + 1) rest) := by
      show evSs (cfN tab (k + 1)) (_ :: _ :: ir_law_draw.body.drop 2) [some (.ref 1), some (.int many), none, none, none] (DS ns xs a rest) = _
      rw [Ss_nx s1, Ss_nx s2]
      exact e
    rw [run_c (f := ir_law_draw) rfl rfl e2 rfl]
    refine congrArg (fun s => some (D.int r, s)) ?_
    rw [List.take_of_length_le (by simp [DS])]
  have hk : (0 : Int) ≤ a + 1 := by omega
  have mm := fun (z : Int) => (⟨Int.emod_nonneg z (by omega), Int.emod_lt_of_pos z hm⟩ : 0 ≤ z % many ∧ z % many < many)
  have q1 : binD .Mult (.int 7919) (.int (a + 1)) = some (.int (7919 * (a + 1))) := d_mul (okMul_l (by decide) (by decide))
  have q2 : binD .Mod (.int (a + 1)) (.int 1000) = some (.int ((a + 1) % 1000)) := d_mod (by decide)
  have q3 : binD .Mod (.int (a + 1)) (.int 50) = some (.int ((a + 1) % 50)) := d_mod (by decide)
  by_cases hn : ns = []
  · obtain ⟨m1, e1⟩ := mixed_ok (k := k) (st := DS ns xs (a + 1) rest) (c := 7919 * (a + 1)) (q := (a + 1) % 1000) (by omega) (by omega)
    obtain ⟨m2, e2⟩ := mixed_ok (k := k) (st := DS ns xs (a + 1) rest) (c := m1) (q := 7) (by omega) (by omega)
    have q4 : binD .FloorDiv (.int m2) (.int 64) = some (.int (m2 / 64)) := d_fdiv (by decide) (by decide)
    have q5 : binD .Mod (.int (m2 / 64)) (.int many) = some (.int (m2 / 64 % many)) := d_mod hm
    refine go (m2 / 64 % many) xs hx (mm _).1 (mm _).2 ?_
    have c : ∀ {st : Store}, cmpD .Eq st (.scr ns) (.lst []) = some true := by
      intro st
      rw [scr_nil, hn]
      rfl
    simp only [ir_law_draw, List.drop_succ_cons, List.drop_zero, x_var, x_con, x_glob, x_tup, x_lst, x_bin, x_neg, x_inv, x_cmp, x_not, x_ite, x_ix, x_sl, x_call, x_bi, x_Es0, x_Es1, x_O0, x_O1, x_C0, x_asg, x_par2, x_aug, x_if, x_ret, x_ex, x_never, x_Ss0, x_Ss1, R.bind_some, List.getElem?_cons_zero, List.getElem?_cons_succ, List.set_cons_zero, List.set_cons_succ, Option.map_some, List.map_cons, List.map_nil, List.replicate, List.cons_append, List.nil_append, List.append_nil, Nat.sub_self, asg_nm, asg_tup, asgs_nil, asgs_cons, List.length_cons, List.length_nil, rd'_int, rd'_str, rd'_tup, rd_lst', rd_bl, rd_non, rd_scr, t_bl, t_int, t_non, Nat.reduceAdd, Nat.reduceLT, reduceIte, and_self, ix_cells, c, q1, q2, e1, e2, q4, q5]
  · have c : ∀ {st : Store}, cmpD .Eq st (.scr ns) (.lst []) = some false := by
      intro st
      rw [scr_nil]
      cases ns with
      | nil => exact absurd rfl hn
      | cons _ _ => rfl
    have hpos : 0 < ns.length := List.length_pos_iff.mpr hn
    have hj0 : 0 ≤ (a + 1) % (ns.length : Int) := Int.emod_nonneg _ (by omega)
    have hj1 : (a + 1) % (ns.length : Int) < ns.length := Int.emod_lt_of_pos _ (by omega)
    have q6 : binD .Mod (.int (a + 1)) (.int ns.length) = some (.int ((a + 1) % (ns.length : Int))) := d_mod (by omega)
    obtain ⟨j, hj⟩ : ∃ j : Nat, (a + 1) % (ns.length : Int) = j := ⟨((a + 1) % (ns.length : Int)).toNat, by omega⟩
    rw [hj] at q6 hj1
    have hjn : j < ns.length := by omega
    have hjx : j < xs.length := by omega
    by_cases hp : 0 < xs[j]
    · have g : ∀ {st : Store}, cmpD .Gt st (.int xs[j]) (.int 0) = some true := by
        intro st
        rw [cmp_gt, decide_eq_true hp]
      have q7 : binD .Mod (.int xs[j]) (.int many) = some (.int (xs[j] % many)) := d_mod hm
      have q8 : binD .FloorDiv (.int xs[j]) (.int many) = some (.int (xs[j] / many)) := d_fdiv hm hm2
      refine go (xs[j] % many) (xs.set j (xs[j] / many)) (by rw [List.length_set]; exact hx) (mm _).1 (mm _).2 ?_
      simp only [ir_law_draw, List.drop_succ_cons, List.drop_zero, x_var, x_con, x_glob, x_tup, x_lst, x_bin, x_neg, x_inv, x_cmp, x_not, x_ite, x_ix, x_sl, x_call, x_bi, x_Es0, x_Es1, x_O0, x_O1, x_C0, x_asg, x_par2, x_aug, x_if, x_ret, x_ex, x_never, x_Ss0, x_Ss1, R.bind_some, List.getElem?_cons_zero, List.getElem?_cons_succ, List.set_cons_zero, List.set_cons_succ, Option.map_some, List.map_cons, List.map_nil, List.replicate, List.cons_append, List.nil_append, List.append_nil, Nat.sub_self, asg_nm, asg_tup, asgs_nil, asgs_cons, List.length_cons, List.length_nil, rd'_int, rd'_str, rd'_tup, rd_lst', rd_bl, rd_non, rd_scr, t_bl, t_int, t_non, Nat.reduceAdd, Nat.reduceLT, reduceIte, and_self, ix_cells, c, len_scr, q6, ix_left, ix_l0 hjx, g, q7, x_sub, q8, sub_l0 hjx]
    · have g : ∀ {st : Store}, cmpD .Gt st (.int xs[j]) (.int 0) = some false := by
        intro st
        rw [cmp_gt, decide_eq_false hp]
      obtain ⟨m1, e1⟩ := mixed_ok (k := k) (st := DS ns xs (a + 1) rest) (c := ns[j] + 7919 * (a + 1)) (q := (a + 1) % 1000) (by omega) (by omega)
      obtain ⟨m2, e2⟩ := mixed_ok (k := k) (st := DS ns xs (a + 1) rest) (c := m1) (q := (a + 1) % 50) (by omega) (by omega)
      have q4 : binD .FloorDiv (.int m2) (.int 64) = some (.int (m2 / 64)) := d_fdiv (by decide) (by decide)
      have q5 : binD .Mod (.int (m2 / 64)) (.int many) = some (.int (m2 / 64 % many)) := d_mod hm
      refine go (m2 / 64 % many) xs hx (mm _).1 (mm _).2 ?_
      simp only [ir_law_draw, List.drop_succ_cons, List.drop_zero, x_var, x_con, x_glob, x_tup, x_lst, x_bin, x_neg, x_inv, x_cmp, x_not, x_ite, x_ix, x_sl, x_call, x_bi, x_Es0, x_Es1, x_O0, x_O1, x_C0, x_asg, x_par2, x_aug, x_if, x_ret, x_ex, x_never, x_Ss0, x_Ss1, R.bind_some, List.getElem?_cons_zero, List.getElem?_cons_succ, List.set_cons_zero, List.set_cons_succ, Option.map_some, List.map_cons, List.map_nil, List.replicate, List.cons_append, List.nil_append, List.append_nil, Nat.sub_self, asg_nm, asg_tup, asgs_nil, asgs_cons, List.length_cons, List.length_nil, rd'_int, rd'_str, rd'_tup, rd_lst', rd_bl, rd_non, rd_scr, t_bl, t_int, t_non, Nat.reduceAdd, Nat.reduceLT, reduceIte, and_self, ix_cells, c, len_scr, q6, ix_left, ix_l0 hjx, g, ix_scr hjn, q1, d_add, q2, q3, e1, e2, q4, q5]
end
end Kw

set_option Elab.async false
set_option linter.all false
set_option maxRecDepth 100000
set_option maxHeartbeats 1000000
/-! Law k03: what is drawn: one of a list, a word, names, rooms. -/
namespace Kw
open PySem
theorem cps_app (a b : Str) : (a ++ b).cps.toList = a.cps.toList ++ b.cps.toList := Array.toList_append
theorem len_app (a b : Str) : (a ++ b).length = a.length + b.length := Str.length_append a b
theorem len_cps (a : Str) : a.length = a.cps.toList.length := rfl
def Low (s : Str) : Prop := ∀ c ∈ s.cps.toList, 97 ≤ c ∧ c ≤ 122
theorem Low.app {a b : Str} (ha : Low a) (hb : Low b) : Low (a ++ b) := fun c hc => by
  rw [cps_app] at hc
  exact (List.mem_append.mp hc).elim (ha c) (hb c)
theorem join_low : ∀ {ys : List Str}, (∀ y ∈ ys, y.length = 1 ∧ Low y) → (Str.join "" ys).length = ys.length ∧ Low (Str.join "" ys)
  | [], _ => ⟨rfl, fun c hc => by cases hc⟩
  | [y], h => h y List.mem_cons_self
  | y :: z :: ys, h => by
    obtain ⟨h1, h2⟩ := join_low (ys := z :: ys) fun w hw => h w (List.mem_cons_of_mem _ hw)
    obtain ⟨h3, h4⟩ := h y List.mem_cons_self
    refine ⟨?_, (h4.app (fun c hc => by cases hc)).app h2⟩
    show (y ++ "" ++ Str.join "" (z :: ys)).length = _
    rw [len_app, len_app, h1, h3, List.length_cons (a := y)]
    show 1 + 0 + _ = _
    omega
section
variable {k : Nat} {st : Store} {ns : List Int} {rest : Store}
theorem lc_inv {f : D → Store → R (Option D)} {I : Store → Prop} {Q : D → Prop} : ∀ {ds : List D} {st : Store}, I st → (∀ d ∈ ds, ∀ st, I st → ∃ y st', f d st = some (some y, st') ∧ Q y ∧ I st') → ∃ ys st', evLc f ds st = some (ys, st') ∧ ys.length = ds.length ∧ (∀ y ∈ ys, Q y) ∧ I st'
  | [], st, h, _ => ⟨[], st, rfl, rfl, (fun y hy => by cases hy), h⟩
  | d :: ds, st, h, hf => by
    obtain ⟨y, st1, e1, q1, i1⟩ := hf d List.mem_cons_self st h
    obtain ⟨ys, st2, e2, l2, q2, i2⟩ := lc_inv (ds := ds) i1 fun d hd => hf d (List.mem_cons_of_mem _ hd)
    refine ⟨y :: ys, st2, ?_, by rw [List.length_cons, List.length_cons, l2], fun z hz => ?_, i2⟩
    · rw [evLc, e1, R.bind_some, e2]
      rfl
    · rcases List.mem_cons.mp hz with rfl | hz
      · exact q1
      · exact q2 z hz
theorem x_lci {cf : CF} {elt : E} {g : G} {it : It} {own : List Nat} {env : Env} {ds : List D} {st st1 : Store} {I : Store → Prop} {Q : D → Prop} (hi : evI cf it env st = some (ds, st1)) (h1 : I st1) (hl : ds.length ≤ LIM) (he : ∀ d ∈ ds, ∀ st, I st → ∃ env1 y st', asgG g d (wipeD env own) = some env1 ∧ evE cf elt env1 st = some (y, st') ∧ Q y ∧ I st') :
    ∃ ys st', evE cf (.lc false elt g it none own) env st = some (.lst ys, st') ∧ ys.length = ds.length ∧ (∀ y ∈ ys, Q y) ∧ I st' := by
  obtain ⟨ys, st2, e, l, q, i⟩ := lc_inv (f := lcF (evC cf none) (evE cf elt) g own env) (Q := Q) h1 fun d hd st hs => by
    obtain ⟨env1, y, st', e1, e2, e3, e4⟩ := he d hd st hs
    refine ⟨y, st', ?_, e3, e4⟩
    rw [lcF_no e1, x_C0, R.bind_some, if_pos rfl, e2, R.bind_some]
  refine ⟨ys, st2, ?_, l, q, i⟩
  rw [x_lc, hi, R.bind_some, e, R.bind_some, if_pos (by rw [l]; exact hl)]
  rfl
theorem Sx.len (h : Sx ns rest st) : st.length = rest.length + 2 := by
  obtain ⟨xs, a, _, _, rfl⟩ := h
  rfl
theorem Sx.cut {more : Store} (h : Sx ns (rest ++ more) st) {n : Nat} (hn : n = rest.length + 2) : Sx ns rest (st.take n) := by
  obtain ⟨xs, a, h1, h2, rfl⟩ := h
  refine ⟨xs, a, h1, h2, ?_⟩
  subst hn
  show DS ns xs a (List.take rest.length (rest ++ more)) = _
  rw [List.take_left' rfl]
theorem Sx.add (h : Sx ns rest st) (more : Store) : Sx ns (rest ++ more) (st ++ more) := by
  obtain ⟨xs, a, h1, h2, rfl⟩ := h
  exact ⟨xs, a, h1, h2, rfl⟩
/-- a def that returns plain data keeps the state -/
theorem run_x {i : Nat} {f : Fn} {ds : List D} {st st1 : Store} {d : D} {more : Store} (hs : Sx ns rest st) (h : tab[i]? = some f) (hl : ds.length = f.np) (e : evSs (cfN tab k) f.body (ds.map some ++ List.replicate (f.nn - f.np) none) st = some (.rt d, st1)) (hd : d.clean = true) (h1 : Sx ns (rest ++ more) st1) : ∃ st', cfN tab (k + 1) i ds st = some (d, st') ∧ Sx ns rest st' :=
  ⟨_, run_c h hl e hd, h1.cut hs.len⟩
theorem run_x0 {i : Nat} {f : Fn} {ds : List D} {st st1 : Store} {d : D} (hs : Sx ns rest st) (h : tab[i]? = some f) (hl : ds.length = f.np) (e : evSs (cfN tab k) f.body (ds.map some ++ List.replicate (f.nn - f.np) none) st = some (.rt d, st1)) (hd : d.clean = true) (h1 : Sx ns rest st1) : ∃ st', cfN tab (k + 1) i ds st = some (d, st') ∧ Sx ns rest st' :=
  run_x (more := []) hs h hl e hd (by rw [List.append_nil]; exact h1)
theorem call_ok {cf : CF} {f : Nat} {es : List E} {env : Env} {st st1 st2 : Store} {ds : List D} {d : D} (h : evEs cf es env st = some (ds, st1)) (e : cf f ds st1 = some (d, st2)) : evE cf (.call f es) env st = some (d, st2) := by
  rw [x_call, h, R.bind_some, e]
theorem one_lst {things : List D} (h0 : 0 < things.length) (hl : things.length ≤ 1000) (hc : ∀ d ∈ things, d.clean = true) (h : Sx ns rest st) : ∃ d st', cfN tab (k + 3) F_law_one [.ref 1, .lst things] st = some (d, st') ∧ d ∈ things ∧ Sx ns rest st' := by
  obtain ⟨r, st', e, r0, r1, h'⟩ := draw_ok (k := k) (many := things.length) (by omega) (by omega) h
  obtain ⟨j, rfl⟩ : ∃ j : Nat, r = j := ⟨r.toNat, by omega⟩
  have hj : j < things.length := by omega
  have hm : things[j] ∈ things := List.getElem_mem hj
  have ix : ixD st' (.lst things) (.int j) = some things[j] := by
    show L2.atI things j = _
    unfold L2.atI
    rw [ixN_nat' hj]
    exact List.getElem?_eq_getElem hj
  obtain ⟨st2, e2, h2⟩ := run_x0 (k := k + 2) (f := ir_law_one) (i := F_law_one) (ds := [.ref 1, .lst things]) h rfl rfl (show evSs (cfN tab (k + 2)) ir_law_one.body [some (.ref 1), some (.lst things)] st = some (.rt things[j], st') by
    simp only [ir_law_one, x_var, x_con, x_glob, x_tup, x_lst, x_bin, x_neg, x_inv, x_cmp, x_not, x_ite, x_ix, x_sl, x_call, x_Es0, x_Es1, x_O0, x_O1, x_C0, x_asg, x_par2, x_aug, x_if, x_ret, x_ex, x_never, x_Ss0, x_Ss1, R.bind_some, List.getElem?_cons_zero, List.getElem?_cons_succ, List.set_cons_zero, List.set_cons_succ, Option.map_some, List.map_cons, List.map_nil, List.replicate, List.cons_append, List.nil_append, List.append_nil, Nat.sub_self, asg_nm, asg_tup, asgs_nil, asgs_cons, List.length_cons, List.length_nil, rd'_int, rd'_str, rd'_tup, rd_lst', rd_bl, rd_non, rd_scr, t_bl, t_int, t_non, Nat.reduceAdd, Nat.reduceLT, reduceIte, and_self, bi_len, x_bi, e, ix]) (hc _ hm) h'
  exact ⟨_, st2, e2, hm, h2⟩
theorem one_str {s : Str} (h0 : 0 < s.length) (hl : s.length ≤ 1000) (h : Sx ns rest st) : ∃ c st', cfN tab (k + 3) F_law_one [.ref 1, .str s] st = some (.str ⟨#[c]⟩, st') ∧ c ∈ s.cps.toList ∧ Sx ns rest st' := by
  obtain ⟨r, st', e, r0, r1, h'⟩ := draw_ok (k := k) (many := s.length) (by omega) (by omega) h
  obtain ⟨j, rfl⟩ : ∃ j : Nat, r = j := ⟨r.toNat, by omega⟩
  have hj : j < s.cps.toList.length := by rw [← len_cps]; omega
  have hm : s.cps.toList[j] ∈ s.cps.toList := List.getElem_mem hj
  have hL : s.length ≤ LIM := lim10 (by omega)
  have ix : ixD st' (.str s) (.int j) = some (.str ⟨#[s.cps.toList[j]]⟩) := by
    show (if s.length ≤ LIM then (L2.atI s.cps.toList j).map (fun c => D.str ⟨#[c]⟩) else none) = _
    rw [if_pos hL]
    unfold L2.atI
    rw [ixN_nat' hj]
    show (s.cps.toList[j]?).map _ = _
    rw [List.getElem?_eq_getElem hj]
    rfl
  have ln : biD .len [.str s] st = some (.int s.length, st) := if_pos hL
  obtain ⟨st2, e2, h2⟩ := run_x0 (k := k + 2) (f := ir_law_one) (i := F_law_one) (ds := [.ref 1, .str s]) h rfl rfl (show evSs (cfN tab (k + 2)) ir_law_one.body [some (.ref 1), some (.str s)] st = some (.rt (.str ⟨#[s.cps.toList[j]]⟩), st') by
    simp only [ir_law_one, x_var, x_con, x_glob, x_tup, x_lst, x_bin, x_neg, x_inv, x_cmp, x_not, x_ite, x_ix, x_sl, x_call, x_bi, x_Es0, x_Es1, x_O0, x_O1, x_C0, x_asg, x_par2, x_aug, x_if, x_ret, x_ex, x_never, x_Ss0, x_Ss1, R.bind_some, List.getElem?_cons_zero, List.getElem?_cons_succ, List.set_cons_zero, List.set_cons_succ, Option.map_some, List.map_cons, List.map_nil, List.replicate, List.cons_append, List.nil_append, List.append_nil, Nat.sub_self, asg_nm, asg_tup, asgs_nil, asgs_cons, List.length_cons, List.length_nil, rd'_int, rd'_str, rd'_tup, rd_lst', rd_bl, rd_non, rd_scr, t_bl, t_int, t_non, Nat.reduceAdd, Nat.reduceLT, reduceIte, and_self, ln, e, ix]) rfl h'
  exact ⟨_, st2, e2, hm, h2⟩
abbrev ABC : Str := "abcdefghijklmnopqrstuvwxyz"
theorem abc_low : ∀ c ∈ ABC.cps.toList, 97 ≤ c ∧ c ≤ 122 := by decide +kernel
abbrev WORDS : List Str := ["yes", "no", "name", "not", "and", "or", "xor", "if", "put", "x", "y", "z"]
theorem words_nm : ∀ s ∈ WORDS, Nm s := by unfold Nm; decide +kernel
theorem three_nm : ∀ s ∈ (["some", "all", "in"] : List Str), Nm s ∧ Nm (s ++ Txt.mul "x" 2) := by unfold Nm; decide +kernel
theorem words_len : (WORDS.map D.str).length = 12 := rfl
theorem strsOf_map : ∀ l : List Str, strsOf (l.map D.str) = some l
  | [] => rfl
  | s :: l => by rw [List.map_cons, strsOf, strsOf_map l]; rfl
theorem str_list : ∀ {ys : List D}, (∀ y ∈ ys, ∃ c, y = .str ⟨#[c]⟩ ∧ 97 ≤ c ∧ c ≤ 122) → ∃ l : List Str, ys = l.map D.str ∧ ∀ y ∈ l, y.length = 1 ∧ Low y
  | [], _ => ⟨[], rfl, fun y hy => by cases hy⟩
  | y :: ys, h => by
    obtain ⟨c, rfl, hc⟩ := h y List.mem_cons_self
    obtain ⟨l, rfl, hl⟩ := str_list fun z hz => h z (List.mem_cons_of_mem _ hz)
    refine ⟨⟨#[c]⟩ :: l, rfl, fun z hz => ?_⟩
    rcases List.mem_cons.mp hz with rfl | hz
    · exact ⟨rfl, fun d hd => by rw [show d = c by simpa using hd]; exact hc⟩
    · exact hl z hz
theorem word_ok (h : Sx ns rest st) : ∃ s st', cfN tab (k + 4) F_law_word [.ref 1] st = some (.str s, st') ∧ Nm s ∧ Sx ns rest st' := by
  obtain ⟨r, st1, e1, r0, r1, h1⟩ := draw_ok (k := k + 1) (many := 3) (by decide) (by decide) h
  by_cases hr : r = 0
  · subst hr
    obtain ⟨d, st2, e2, hd, h2⟩ := one_lst (k := k) (things := WORDS.map D.str) (by decide) (by decide) (fun d hd => by obtain ⟨s, _, rfl⟩ := List.mem_map.mp hd; rfl) h1
    obtain ⟨s, hs, rfl⟩ := List.mem_map.mp hd
    have c : ∀ {st : Store}, cmpD .Eq st (.int 0) (.int 0) = some true := cmp_ii
    obtain ⟨st3, e3, h3⟩ := run_x0 (k := k + 3) (f := ir_law_word) (i := F_law_word) (ds := [.ref 1]) h rfl rfl (show evSs (cfN tab (k + 3)) ir_law_word.body [some (.ref 1), none, none, none] st = some (.rt (.str s), st2) by
      show evSs (cfN tab (k + 3)) (_ :: _) _ _ = _
      refine Ss_rt ?_
      rw [x_if]
      simp only [x_var, x_con, x_glob, x_tup, x_lst, x_bin, x_neg, x_inv, x_cmp, x_not, x_ite, x_ix, x_sl, x_call, x_bi, x_Es0, x_Es1, x_O0, x_O1, x_C0, x_asg, x_par2, x_aug, x_if, x_ret, x_ex, x_never, x_Ss0, x_Ss1, R.bind_some, List.getElem?_cons_zero, List.getElem?_cons_succ, List.set_cons_zero, List.set_cons_succ, Option.map_some, List.map_cons, List.map_nil, List.replicate, List.cons_append, List.nil_append, List.append_nil, Nat.sub_self, asg_nm, asg_tup, asgs_nil, asgs_cons, List.length_cons, List.length_nil, rd'_int, rd'_str, rd'_tup, rd_lst', rd_bl, rd_non, rd_scr, t_bl, t_int, t_non, Nat.reduceAdd, Nat.reduceLT, reduceIte, and_self, e1, c]
      have e2' : cfN tab (k + 3) F_law_one [.ref 1, .lst [.str "yes", .str "no", .str "name", .str "not", .str "and", .str "or", .str "xor", .str "if", .str "put", .str "x", .str "y", .str "z"]] st1 = some (.str s, st2) := e2
      simp only [e2', x_var, x_con, x_glob, x_tup, x_lst, x_bin, x_neg, x_inv, x_cmp, x_not, x_ite, x_ix, x_sl, x_call, x_bi, x_Es0, x_Es1, x_O0, x_O1, x_C0, x_asg, x_par2, x_aug, x_if, x_ret, x_ex, x_never, x_Ss0, x_Ss1, R.bind_some, List.getElem?_cons_zero, List.getElem?_cons_succ, List.set_cons_zero, List.set_cons_succ, Option.map_some, List.map_cons, List.map_nil, List.replicate, List.cons_append, List.nil_append, List.append_nil, Nat.sub_self, asg_nm, asg_tup, asgs_nil, asgs_cons, List.length_cons, List.length_nil, rd'_int, rd'_str, rd'_tup, rd_lst', rd_bl, rd_non, rd_scr, t_bl, t_int, t_non, Nat.reduceAdd, Nat.reduceLT, reduceIte, and_self]) rfl h2
    exact ⟨s, st3, e3, words_nm s hs, h3⟩
  · obtain ⟨q, st2, e2, q0, q1, h2⟩ := draw_ok (k := k + 1) (many := 8) (by decide) (by decide) h1
    obtain ⟨j, rfl⟩ : ∃ j : Nat, q = j := ⟨q.toNat, by omega⟩
    have hi : evI (cfN tab (k + 3)) (.rng (.bin .Add (.con (.int 1)) (.call F_law_draw [(.var 0), (.con (.int 8))]))) [some (.ref 1), some (.str ABC), none, none] st1 = some (rngD 0 ((1 + j : Nat) : Int), st2) := by
      have e : evE (cfN tab (k + 3)) (.bin .Add (.con (.int 1)) (.call F_law_draw [(.var 0), (.con (.int 8))])) [some (.ref 1), some (.str ABC), none, none] st1 = some (.int ((1 + j : Nat) : Int), st2) := by
        simp only [x_var, x_con, x_glob, x_tup, x_lst, x_bin, x_neg, x_inv, x_cmp, x_not, x_ite, x_ix, x_sl, x_call, x_bi, x_Es0, x_Es1, x_O0, x_O1, x_C0, x_asg, x_par2, x_aug, x_if, x_ret, x_ex, x_never, x_Ss0, x_Ss1, R.bind_some, List.getElem?_cons_zero, List.getElem?_cons_succ, List.set_cons_zero, List.set_cons_succ, Option.map_some, List.map_cons, List.map_nil, List.replicate, List.cons_append, List.nil_append, List.append_nil, Nat.sub_self, asg_nm, asg_tup, asgs_nil, asgs_cons, List.length_cons, List.length_nil, rd'_int, rd'_str, rd'_tup, rd_lst', rd_bl, rd_non, rd_scr, t_bl, t_int, t_non, Nat.reduceAdd, Nat.reduceLT, reduceIte, and_self, e2, d_add]
        rfl
      rw [x_rng, e, R.bind_some]
      exact if_pos (rng_le (by omega))
    obtain ⟨ys, st3, e3, l3, q3, h3⟩ := x_lci (elt := .call F_law_one [(.var 0), (.var 1)]) (g := .nm 3) (own := [3]) (Q := fun y => ∃ c, y = .str ⟨#[c]⟩ ∧ 97 ≤ c ∧ c ≤ 122) (I := Sx ns rest) hi h2 (lim10 (by unfold rngD; rw [List.length_map, List.length_range]; omega)) fun d _ st hst => by
      obtain ⟨c, st', e, hc, h'⟩ := one_str (k := k) (s := ABC) (by decide) (by decide) hst
      exact ⟨[some (.ref 1), some (.str ABC), none, some d], _, st', rfl, by simp only [x_var, x_con, x_glob, x_tup, x_lst, x_bin, x_neg, x_inv, x_cmp, x_not, x_ite, x_ix, x_sl, x_call, x_bi, x_Es0, x_Es1, x_O0, x_O1, x_C0, x_asg, x_par2, x_aug, x_if, x_ret, x_ex, x_never, x_Ss0, x_Ss1, R.bind_some, List.getElem?_cons_zero, List.getElem?_cons_succ, List.set_cons_zero, List.set_cons_succ, Option.map_some, List.map_cons, List.map_nil, List.replicate, List.cons_append, List.nil_append, List.append_nil, Nat.sub_self, asg_nm, asg_tup, asgs_nil, asgs_cons, List.length_cons, List.length_nil, rd'_int, rd'_str, rd'_tup, rd_lst', rd_bl, rd_non, rd_scr, t_bl, t_int, t_non, Nat.reduceAdd, Nat.reduceLT, reduceIte, and_self, e], ⟨c, rfl, abc_low c hc⟩, h'⟩
    obtain ⟨l, rfl, hl⟩ := str_list q3
    obtain ⟨j1, j2⟩ := join_low hl
    have hlen : l.length = 1 + j := by
      rw [List.length_map] at l3
      rw [l3]
      unfold rngD
      rw [List.length_map, List.length_range]
      omega
    have w0 : Nm (Txt.join "" l) := by
      show Nm (Builtin.Str.glued "" l)
      rw [StrLaws.glued_eq_join]
      exact ⟨by omega, by omega, j2⟩
    have mj : mtD .join (.str "") [.lst (l.map D.str)] st3 = some (.str (Txt.join "" l), st3) := by
      show (match strsOf (l.map D.str) with
        | some (ys : List Str) => if (ys.map fun y : Str => y.length).sum + ys.length * Str.length "" ≤ LIM then some (D.str (Txt.join "" ys), st3) else none
        | none => none) = _
      rw [strsOf_map]
      refine if_pos (lim10 ?_)
      have := sum_le (b := 1) (f := fun s : Str => s.length) (l := l) fun s hs => by rw [(hl s hs).1]; exact Nat.le_refl _
      show _ + l.length * 0 ≤ _
      omega
    generalize Txt.join "" l = w at *
    have fin : ∀ b : Bool, cmpD .In st3 (.str w) (.tup [.str "some", .str "all", .str "in"]) = some b → Nm (w ++ Txt.mul "x" (if b then 2 else 0)) → ∃ s st', cfN tab (k + 4) F_law_word [.ref 1] st = some (.str s, st') ∧ Nm s ∧ Sx ns rest st' := fun b cb hb => by
      have c : ∀ {st : Store}, cmpD .Eq st (.int r) (.int 0) = some false := cmp_ii.trans (by rw [decide_eq_false hr])
      have s1 : evS (cfN tab (k + 3)) (.if_ (.cmp .Eq (.call F_law_draw [(.var 0), (.con (.int 3))]) (.con (.int 0))) [.ret (.call F_law_one [(.var 0), (.lst [(.con (.str "yes")), (.con (.str "no")), (.con (.str "name")), (.con (.str "not")), (.con (.str "and")), (.con (.str "or")), (.con (.str "xor")), (.con (.str "if")), (.con (.str "put")), (.con (.str "x")), (.con (.str "y")), (.con (.str "z"))])])] []) [some (.ref 1), none, none, none] st = some (.nx [some (.ref 1), none, none, none], st1) := by
        simp only [x_var, x_con, x_glob, x_tup, x_lst, x_bin, x_neg, x_inv, x_cmp, x_not, x_ite, x_ix, x_sl, x_call, x_bi, x_Es0, x_Es1, x_O0, x_O1, x_C0, x_asg, x_par2, x_aug, x_if, x_ret, x_ex, x_never, x_Ss0, x_Ss1, R.bind_some, List.getElem?_cons_zero, List.getElem?_cons_succ, List.set_cons_zero, List.set_cons_succ, Option.map_some, List.map_cons, List.map_nil, List.replicate, List.cons_append, List.nil_append, List.append_nil, Nat.sub_self, asg_nm, asg_tup, asgs_nil, asgs_cons, List.length_cons, List.length_nil, rd'_int, rd'_str, rd'_tup, rd_lst', rd_bl, rd_non, rd_scr, t_bl, t_int, t_non, Nat.reduceAdd, Nat.reduceLT, reduceIte, and_self, e1, c]
      have s2 : evS (cfN tab (k + 3)) (.asg (.nm 1) (.con (.str ABC))) [some (.ref 1), none, none, none] st1 = some (.nx [some (.ref 1), some (.str ABC), none, none], st1) := by
        simp only [x_var, x_con, x_glob, x_tup, x_lst, x_bin, x_neg, x_inv, x_cmp, x_not, x_ite, x_ix, x_sl, x_call, x_bi, x_Es0, x_Es1, x_O0, x_O1, x_C0, x_asg, x_par2, x_aug, x_if, x_ret, x_ex, x_never, x_Ss0, x_Ss1, R.bind_some, List.getElem?_cons_zero, List.getElem?_cons_succ, List.set_cons_zero, List.set_cons_succ, Option.map_some, List.map_cons, List.map_nil, List.replicate, List.cons_append, List.nil_append, List.append_nil, Nat.sub_self, asg_nm, asg_tup, asgs_nil, asgs_cons, List.length_cons, List.length_nil, rd'_int, rd'_str, rd'_tup, rd_lst', rd_bl, rd_non, rd_scr, t_bl, t_int, t_non, Nat.reduceAdd, Nat.reduceLT, reduceIte, and_self]
      have s3 : evS (cfN tab (k + 3)) (.asg (.nm 2) (.mt .join (.con (.str "")) [(.lc false (.call F_law_one [(.var 0), (.var 1)]) (.nm 3) (.rng (.bin .Add (.con (.int 1)) (.call F_law_draw [(.var 0), (.con (.int 8))]))) none [3])])) [some (.ref 1), some (.str ABC), none, none] st1 = some (.nx [some (.ref 1), some (.str ABC), some (.str w), none], st3) := by
        refine asg_ok (x := .str w) ?_ rfl
        rw [x_mt, x_con, R.bind_some, if_pos (by rfl), x_Es1, e3, R.bind_some, x_Es0, R.bind_some, R.bind_some, mj]
      have bm : binD .Mult (.int 2) (.int (if b then 1 else 0)) = some (.int (if b then 2 else 0)) := by cases b <;> rfl
      have bx : binD .Mult (.str "x") (.int (if b then 2 else 0)) = some (.str (Txt.mul "x" (if b then 2 else 0))) := by cases b <;> rfl
      have ba : binD .Add (.str w) (.str (Txt.mul "x" (if b then 2 else 0))) = some (.str (w ++ Txt.mul "x" (if b then 2 else 0))) := if_pos (lim10 (by
        have := hb.2.1
        rw [len_app] at this
        omega))
      have bi : biD .int [.bl b] st3 = some (.int (if b then 1 else 0), st3) := rfl
      have s4 : evS (cfN tab (k + 3)) (.ret (.bin .Add (.var 2) (.bin .Mult (.con (.str "x")) (.bin .Mult (.con (.int 2)) (.bi .int [(.cmp .In (.var 2) (.tup [(.con (.str "some")), (.con (.str "all")), (.con (.str "in"))]))]))))) [some (.ref 1), some (.str ABC), some (.str w), none] st3 = some (.rt (.str (w ++ Txt.mul "x" (if b then 2 else 0))), st3) := by
        simp only [x_var, x_con, x_glob, x_tup, x_lst, x_bin, x_neg, x_inv, x_cmp, x_not, x_ite, x_ix, x_sl, x_call, x_bi, x_Es0, x_Es1, x_O0, x_O1, x_C0, x_asg, x_par2, x_aug, x_if, x_ret, x_ex, x_never, x_Ss0, x_Ss1, R.bind_some, List.getElem?_cons_zero, List.getElem?_cons_succ, List.set_cons_zero, List.set_cons_succ, Option.map_some, List.map_cons, List.map_nil, List.replicate, List.cons_append, List.nil_append, List.append_nil, Nat.sub_self, asg_nm, asg_tup, asgs_nil, asgs_cons, List.length_cons, List.length_nil, rd'_int, rd'_str, rd'_tup, rd_lst', rd_bl, rd_non, rd_scr, t_bl, t_int, t_non, Nat.reduceAdd, Nat.reduceLT, reduceIte, and_self, cb, bi, bm, bx, ba]
      obtain ⟨st4, e4, h4⟩ := run_x0 (k := k + 3) (f := ir_law_word) (i := F_law_word) (ds := [.ref 1]) h rfl rfl (show evSs (cfN tab (k + 3)) [_, _, _, _] [some (.ref 1), none, none, none] st = some (.rt (.str (w ++ Txt.mul "x" (if b then 2 else 0))), st3) by
        rw [Ss_nx s1, Ss_nx s2, Ss_nx s3, Ss_rt s4]) rfl h3
      exact ⟨_, st4, e4, hb, h4⟩
    have ci := (in_strs (st := st3) (ss := ["some", "all", "in"]) w0.ok (fun x hx => (three_nm x hx).1.ok)).1
    by_cases hm : w ∈ (["some", "all", "in"] : List Str)
    · rw [decide_eq_true hm] at ci
      exact fin true ci (three_nm w hm).2
    · rw [decide_eq_false hm] at ci
      refine fin false ci ?_
      have e : w ++ Txt.mul "x" 0 = w := by
        have : Txt.mul "x" 0 = Str.empty := rfl
        rw [this]
        show (⟨w.cps ++ #[]⟩ : Str) = w
        rw [Array.append_empty]
      show Nm (w ++ Txt.mul "x" 0)
      rw [e]
      exact w0
end
end Kw

set_option Elab.async false
set_option linter.all false
set_option maxRecDepth 100000
set_option maxHeartbeats 1000000
/-! Law k03: names and rooms that are drawn. -/
namespace Kw
open PySem
section
variable {k : Nat} {st : Store} {ns : List Int} {rest : Store}
theorem Sx.get {m : MO} (h : Sx ns (rest ++ [m]) st) : st[rest.length + 2]? = some m := by
  obtain ⟨xs, a, _, _, rfl⟩ := h
  show (rest ++ [m])[rest.length]? = _
  rw [List.getElem?_append_right (Nat.le_refl _), Nat.sub_self]
  rfl
theorem Sx.set {m m' : MO} (h : Sx ns (rest ++ [m]) st) : Sx ns (rest ++ [m']) (st.set (rest.length + 2) m') := by
  obtain ⟨xs, a, h1, h2, rfl⟩ := h
  refine ⟨xs, a, h1, h2, ?_⟩
  show DS ns xs a ((rest ++ [m]).set rest.length m') = _
  rw [List.set_append_right _ _ (Nat.le_refl _), Nat.sub_self]
  rfl
theorem top_ty {l : List D} (h : Sx ns (rest ++ [.lst l]) st) : mtTy .append (.ref (rest.length + 2)) st = true := by
  simp only [mtTy, h.get]
theorem top_app {l : List D} {d : D} (h : Sx ns (rest ++ [.lst l]) st) (hd : d.clean = true) (hl : l.length ≤ 1000) : mtD .append (.ref (rest.length + 2)) [d] st = some (.non, st.set (rest.length + 2) (.lst (l ++ [d]))) := by
  simp only [mtD, h.get, hd, Bool.true_and]
  rw [if_pos (decide_eq_true (Nat.lt_of_le_of_lt hl (by decide)))]
theorem top_rd {l : List D} (h : Sx ns (rest ++ [.lst l]) st) : rd st (.ref (rest.length + 2)) = .lst l := by
  unfold rd
  simp only [h.get]
theorem d_addL {a b : List D} (h : a.length + b.length ≤ 100000) : binD .Add (.lst a) (.lst b) = some (.lst (a ++ b)) := if_pos (lim10 h)
theorem ix0 {d : D} {ds : List D} : ixD st (.lst (d :: ds)) (.int 0) = some d := by
  show L2.atI (d :: ds) 0 = _
  unfold L2.atI
  rw [show L2.ixN (d :: ds).length 0 = some 0 from ixN_nat' (j := 0) (by simp)]
  rfl
/-! ### names -/
abbrev THREE : List Str := ["some", "all", "in"]
def cut7 (w : Str) : Str := L2.cutS w none (some 7)
theorem cut7_nm {w : Str} (h : Nm w) {c : Nat} (hc : 97 ≤ c ∧ c ≤ 122) : Nm (cut7 w ++ ⟨#[c]⟩) := by
  have e : (cut7 w).cps.toList = w.cps.toList.take (min 7 w.length) := by
    unfold cut7 L2.cutS
    rw [show HT.sIx w.length w.length (some 7) = min 7 w.length from HT.sIx_nat _ _ 7, HT.sIx_none]
    rfl
  have hl : (cut7 w).length = min 7 w.length := by
    rw [len_cps, e, List.length_take, ← len_cps]
    omega
  refine ⟨?_, ?_, fun d hd => ?_⟩
  · rw [len_app]
    show 1 ≤ _ + 1
    omega
  · rw [len_app, hl]
    show _ + 1 ≤ 8
    omega
  · rw [cps_app, e] at hd
    rcases List.mem_append.mp hd with hd | hd
    · exact h.2.2 d (List.mem_of_mem_take hd)
    · rw [show d = c by simpa using hd]
      exact hc
def otherL (w : Str) : List Str := ABC.cps.toList.map fun c => cut7 w ++ ⟨#[c]⟩
theorem abc_nd : ABC.cps.toList.Nodup := by decide +kernel
theorem str_eq {a b : Str} (h : a.cps.toList = b.cps.toList) : a = b := by
  cases a; cases b
  exact congrArg Str.mk (Array.toList_inj.mp h)
theorem other_nd (w : Str) : (otherL w).Nodup := by
  unfold otherL
  refine List.Pairwise.map _ (fun a b hab e => hab ?_) abc_nd
  have := congrArg (fun s : Str => s.cps.toList) e
  simp only [cps_app] at this
  have := List.append_cancel_left this
  simpa using this
theorem other_len (w : Str) : (otherL w).length = 26 := by
  unfold otherL
  rw [List.length_map]
  decide +kernel
def glueD (w : Str) : D → D
  | .str c => .str (cut7 w ++ c)
  | d => d
abbrev nmb : List S := [.asg (.nm 4) (.call F_law_word [(.var 0)]),
     .asg (.nm 5) (.bin .Add (.lst [(.var 4)]) (.lc false (.bin .Add (.sl (.var 4) none (some (.con (.int 7)))) (.var 6)) (.nm 6) (.seq (.con (.str "abcdefghijklmnopqrstuvwxyz"))) none [6])),
     .ex (.mt .append (.var 2) [(.ix (.lc false (.var 7) (.nm 7) (.seq (.var 5)) (some (.cmp .NotIn (.var 7) (.bin .Add (.var 2) (.lst [(.con (.str "some")), (.con (.str "all")), (.con (.str "in"))])))) [7]) (.con (.int 0)))])]
theorem names_step {found : List Str} {o1 o3 o4 o5 o6 o7 : Option D} (hf : found.Nodup) (hn : ∀ x ∈ found, Nm x) (hl : found.length ≤ 4) (h : Sx ns (rest ++ [.lst (found.map D.str)]) st) :
    ∃ (s : Str) (o4' o5' : Option D) (st' : Store), evSs (cfN tab (k + 4)) nmb [some (.ref 1), o1, some (.ref (rest.length + 2)), o3, o4, o5, o6, o7] st = some (.nx [some (.ref 1), o1, some (.ref (rest.length + 2)), o3, o4', o5', o6, o7], st') ∧ Nm s ∧ s ∉ found ∧ Sx ns (rest ++ [.lst ((found ++ [s]).map D.str)]) st' := by
  obtain ⟨w, st1, e1, hw, h1⟩ := word_ok (k := k) h
  have s1 : evS (cfN tab (k + 4)) (.asg (.nm 4) (.call F_law_word [(.var 0)])) [some (.ref 1), o1, some (.ref (rest.length + 2)), o3, o4, o5, o6, o7] st = some (.nx [some (.ref 1), o1, some (.ref (rest.length + 2)), o3, some (.str w), o5, o6, o7], st1) := by
    simp only [x_var, x_con, x_glob, x_tup, x_lst, x_bin, x_neg, x_inv, x_cmp, x_not, x_ite, x_ix, x_sl, x_call, x_bi, x_Es0, x_Es1, x_O0, x_O1, x_C0, x_asg, x_par2, x_aug, x_if, x_ret, x_ex, x_never, x_Ss0, x_Ss1, R.bind_some, List.getElem?_cons_zero, List.getElem?_cons_succ, List.set_cons_zero, List.set_cons_succ, Option.map_some, List.map_cons, List.map_nil, List.replicate, List.cons_append, List.nil_append, List.append_nil, Nat.sub_self, asg_nm, asg_tup, asgs_nil, asgs_cons, List.length_cons, List.length_nil, rd'_int, rd'_str, rd'_tup, rd_lst', rd_bl, rd_non, rd_scr, t_bl, t_int, t_non, Nat.reduceAdd, Nat.reduceLT, reduceIte, and_self, e1]
  have hwl : w.length ≤ LIM := lim10 (by have := hw.2.1; omega)
  have s2 : evS (cfN tab (k + 4)) (.asg (.nm 5) (.bin .Add (.lst [(.var 4)]) (.lc false (.bin .Add (.sl (.var 4) none (some (.con (.int 7)))) (.var 6)) (.nm 6) (.seq (.con (.str "abcdefghijklmnopqrstuvwxyz"))) none [6]))) [some (.ref 1), o1, some (.ref (rest.length + 2)), o3, some (.str w), o5, o6, o7] st1
      = some (.nx [some (.ref 1), o1, some (.ref (rest.length + 2)), o3, some (.str w), some (.lst ((w :: otherL w).map D.str)), o6, o7], st1) := by
    have hi : evI (cfN tab (k + 4)) (.seq (.con (.str "abcdefghijklmnopqrstuvwxyz"))) [some (.ref 1), o1, some (.ref (rest.length + 2)), o3, some (.str w), o5, o6, o7] st1 = some (ABC.cps.toList.map fun c => .str ⟨#[c]⟩, st1) := by
      rw [x_seq, x_con]
      rfl
    have hc : evE (cfN tab (k + 4)) (.lc false (.bin .Add (.sl (.var 4) none (some (.con (.int 7)))) (.var 6)) (.nm 6) (.seq (.con (.str "abcdefghijklmnopqrstuvwxyz"))) none [6]) [some (.ref 1), o1, some (.ref (rest.length + 2)), o3, some (.str w), o5, o6, o7] st1 = some (.lst ((otherL w).map D.str), st1) := by
      rw [x_lcp (h := glueD w) hi (by rw [List.length_map]; decide +kernel) (fun d hd => ?_), List.map_map]
      · unfold otherL
        rw [List.map_map]
        rfl
      · obtain ⟨c, hc, rfl⟩ := List.mem_map.mp hd
        have sl : slD (.str w) none (some 7) = some (.str (cut7 w)) := if_pos hwl
        have ba : binD .Add (.str (cut7 w)) (.str ⟨#[c]⟩) = some (.str (cut7 w ++ ⟨#[c]⟩)) := if_pos (lim10 (by
          have := (cut7_nm hw (abc_low c hc)).2.1
          rw [len_app] at this
          omega))
        refine ⟨[some (.ref 1), o1, some (.ref (rest.length + 2)), o3, some (.str w), o5, some (.str ⟨#[c]⟩), o7], rfl, ?_⟩
        simp only [x_var, x_con, x_glob, x_tup, x_lst, x_bin, x_neg, x_inv, x_cmp, x_not, x_ite, x_ix, x_sl, x_call, x_bi, x_Es0, x_Es1, x_O0, x_O1, x_C0, x_asg, x_par2, x_aug, x_if, x_ret, x_ex, x_never, x_Ss0, x_Ss1, R.bind_some, List.getElem?_cons_zero, List.getElem?_cons_succ, List.set_cons_zero, List.set_cons_succ, Option.map_some, List.map_cons, List.map_nil, List.replicate, List.cons_append, List.nil_append, List.append_nil, Nat.sub_self, asg_nm, asg_tup, asgs_nil, asgs_cons, List.length_cons, List.length_nil, rd'_int, rd'_str, rd'_tup, rd_lst', rd_bl, rd_non, rd_scr, t_bl, t_int, t_non, Nat.reduceAdd, Nat.reduceLT, reduceIte, and_self, sl, ba, glueD]
    have ba : binD .Add (.lst [.str w]) (.lst ((otherL w).map D.str)) = some (.lst ((w :: otherL w).map D.str)) := d_addL (by
      rw [List.length_map, other_len]
      exact Nat.le_of_lt_succ (by decide : 1 + 26 < 100001))
    exact asg_ok (x := .lst ((w :: otherL w).map D.str)) (bin_ok (x := .lst [.str w]) (by simp only [x_var, x_con, x_glob, x_tup, x_lst, x_bin, x_neg, x_inv, x_cmp, x_not, x_ite, x_ix, x_sl, x_call, x_bi, x_Es0, x_Es1, x_O0, x_O1, x_C0, x_asg, x_par2, x_aug, x_if, x_ret, x_ex, x_never, x_Ss0, x_Ss1, R.bind_some, List.getElem?_cons_zero, List.getElem?_cons_succ, List.set_cons_zero, List.set_cons_succ, Option.map_some, List.map_cons, List.map_nil, List.replicate, List.cons_append, List.nil_append, List.append_nil, Nat.sub_self, asg_nm, asg_tup, asgs_nil, asgs_cons, List.length_cons, List.length_nil, rd'_int, rd'_str, rd'_tup, rd_lst', rd_bl, rd_non, rd_scr, t_bl, t_int, t_non, Nat.reduceAdd, Nat.reduceLT, reduceIte, and_self]) hc ba) rfl
  have hO : ∀ x ∈ w :: otherL w, Nm x := fun x hx => by
    rcases List.mem_cons.mp hx with rfl | hx
    · exact hw
    · obtain ⟨c, hc, rfl⟩ := List.mem_map.mp hx
      exact cut7_nm hw (abc_low c hc)
  have hT : ∀ x ∈ found ++ THREE, okS x := fun x hx => by
    rcases List.mem_append.mp hx with hx | hx
    · exact (hn x hx).ok
    · exact (three_nm x hx).1.ok
  have hlen : (w :: otherL w).length = 27 := by rw [List.length_cons, other_len]
  have hc : evE (cfN tab (k + 4)) (.lc false (.var 7) (.nm 7) (.seq (.var 5)) (some (.cmp .NotIn (.var 7) (.bin .Add (.var 2) (.lst [(.con (.str "some")), (.con (.str "all")), (.con (.str "in"))])))) [7]) [some (.ref 1), o1, some (.ref (rest.length + 2)), o3, some (.str w), some (.lst ((w :: otherL w).map D.str)), o6, o7] st1
      = some (.lst (((w :: otherL w).filter fun x => !decide (x ∈ found ++ THREE)).map D.str), st1) := by
    have hi : evI (cfN tab (k + 4)) (.seq (.var 5)) [some (.ref 1), o1, some (.ref (rest.length + 2)), o3, some (.str w), some (.lst ((w :: otherL w).map D.str)), o6, o7] st1 = some ((w :: otherL w).map D.str, st1) := by
      rw [x_seq, x_var]
      rfl
    have e : ((w :: otherL w).filter fun x => !decide (x ∈ found ++ THREE)).map D.str = (((w :: otherL w).map D.str).filter (notIn (found ++ THREE))).map id := by
      rw [List.map_id, List.filter_map]
      rfl
    rw [e]
    refine x_lcf hi (lim10 (by rw [List.length_map, hlen]; omega)) fun d hd => ?_
    obtain ⟨x, hx, rfl⟩ := List.mem_map.mp hd
    have ba : binD .Add (.lst (found.map D.str)) (.lst [.str "some", .str "all", .str "in"]) = some (.lst ((found ++ THREE).map D.str)) := by
      rw [List.map_append]
      exact if_pos (lim10 (by rw [List.length_map]; simp; omega))
    have ba' : evE (cfN tab (k + 4)) (.bin .Add (.var 2) (.lst [(.con (.str "some")), (.con (.str "all")), (.con (.str "in"))])) [some (.ref 1), o1, some (.ref (rest.length + 2)), o3, some (.str w), some (.lst ((w :: otherL w).map D.str)), o6, some (.str x)] st1 = some (.lst ((found ++ THREE).map D.str), st1) := by
      refine bin_ok (x := .ref (rest.length + 2)) (y := .lst [.str "some", .str "all", .str "in"]) (var_ok rfl) (by simp only [x_var, x_con, x_glob, x_tup, x_lst, x_bin, x_neg, x_inv, x_cmp, x_not, x_ite, x_ix, x_sl, x_call, x_bi, x_Es0, x_Es1, x_O0, x_O1, x_C0, x_asg, x_par2, x_aug, x_if, x_ret, x_ex, x_never, x_Ss0, x_Ss1, R.bind_some, List.getElem?_cons_zero, List.getElem?_cons_succ, List.set_cons_zero, List.set_cons_succ, Option.map_some, List.map_cons, List.map_nil, List.replicate, List.cons_append, List.nil_append, List.append_nil, Nat.sub_self, asg_nm, asg_tup, asgs_nil, asgs_cons, List.length_cons, List.length_nil, rd'_int, rd'_str, rd'_tup, rd_lst', rd_bl, rd_non, rd_scr, t_bl, t_int, t_non, Nat.reduceAdd, Nat.reduceLT, reduceIte, and_self]) ?_
      rw [top_rd h1, rd_lst']
      exact ba
    exact ⟨[some (.ref 1), o1, some (.ref (rest.length + 2)), o3, some (.str w), some (.lst ((w :: otherL w).map D.str)), o6, some (.str x)], .bl (!decide (x ∈ found ++ THREE)), rfl, cmp_ok (var_ok rfl) ba' (in_strs (hO x hx).ok hT).2.2.2, rfl, fun _ => var_ok rfl⟩
  obtain ⟨s, fs, hfs⟩ : ∃ s fs, (w :: otherL w).filter (fun x => !decide (x ∈ found ++ THREE)) = s :: fs := by
    cases e : (w :: otherL w).filter (fun x => !decide (x ∈ found ++ THREE)) with
    | cons s fs => exact ⟨s, fs, rfl⟩
    | nil =>
      have := nodup_len (other_nd w) (b := found ++ THREE) fun x hx => by
        have := List.filter_eq_nil_iff.mp e x (List.mem_cons_of_mem _ hx)
        by_cases hx2 : x ∈ found ++ THREE
        · exact hx2
        · rw [decide_eq_false hx2] at this
          exact absurd rfl this
      rw [other_len, List.length_append] at this
      have : THREE.length = 3 := rfl
      omega
  have hs : s ∈ w :: otherL w ∧ s ∉ found := by
    have : s ∈ (w :: otherL w).filter fun x => !decide (x ∈ found ++ THREE) := by rw [hfs]; exact List.mem_cons_self
    obtain ⟨a, b⟩ := List.mem_filter.mp this
    refine ⟨a, fun hh => ?_⟩
    simp [hh] at b
  have s3 : evS (cfN tab (k + 4)) (.ex (.mt .append (.var 2) [(.ix (.lc false (.var 7) (.nm 7) (.seq (.var 5)) (some (.cmp .NotIn (.var 7) (.bin .Add (.var 2) (.lst [(.con (.str "some")), (.con (.str "all")), (.con (.str "in"))])))) [7]) (.con (.int 0)))])) [some (.ref 1), o1, some (.ref (rest.length + 2)), o3, some (.str w), some (.lst ((w :: otherL w).map D.str)), o6, o7] st1
      = some (.nx [some (.ref 1), o1, some (.ref (rest.length + 2)), o3, some (.str w), some (.lst ((w :: otherL w).map D.str)), o6, o7], st1.set (rest.length + 2) (.lst (found.map D.str ++ [.str s]))) := by
    have ix : evE (cfN tab (k + 4)) (.ix (.lc false (.var 7) (.nm 7) (.seq (.var 5)) (some (.cmp .NotIn (.var 7) (.bin .Add (.var 2) (.lst [(.con (.str "some")), (.con (.str "all")), (.con (.str "in"))])))) [7]) (.con (.int 0))) [some (.ref 1), o1, some (.ref (rest.length + 2)), o3, some (.str w), some (.lst ((w :: otherL w).map D.str)), o6, o7] st1 = some (.str s, st1) := by
      rw [x_ix, hc, R.bind_some, x_con, R.bind_some, hfs, List.map_cons, ix0]
      rfl
    rw [x_ex, x_mt, var_ok (d := .ref (rest.length + 2)) rfl, R.bind_some, if_pos (top_ty h1), x_Es1, ix, R.bind_some, x_Es0, R.bind_some, R.bind_some, top_app h1 rfl (by rw [List.length_map]; omega)]
    rfl
  refine ⟨s, some (.str w), some (.lst ((w :: otherL w).map D.str)), st1.set (rest.length + 2) (.lst (found.map D.str ++ [.str s])), ?_, hO s hs.1, hs.2, ?_⟩
  · rw [Ss_nx s1, Ss_nx s2, Ss_nx s3, x_Ss0]
  · rw [List.map_append]
    exact h1.set
theorem names_loop {o1 : Option D} : ∀ (ds : List D) (found : List Str) (st : Store) (o3 o4 o5 o6 o7 : Option D), found.Nodup → (∀ x ∈ found, Nm x) → found.length + ds.length ≤ 5 → Sx ns (rest ++ [.lst (found.map D.str)]) st →
    ∃ (found' : List Str) (o3' o4' o5' o6' o7' : Option D) (st' : Store), evFor (.nm 3) (fun env st => evSs (cfN tab (k + 4)) nmb env st) ds [some (.ref 1), o1, some (.ref (rest.length + 2)), o3, o4, o5, o6, o7] st = some (.nx [some (.ref 1), o1, some (.ref (rest.length + 2)), o3', o4', o5', o6', o7'], st') ∧ found'.Nodup ∧ (∀ x ∈ found', Nm x) ∧ found'.length = found.length + ds.length ∧ Sx ns (rest ++ [.lst (found'.map D.str)]) st'
  | [], found, st, o3, o4, o5, o6, o7, h1, h2, _, h4 => ⟨found, o3, o4, o5, o6, o7, st, rfl, h1, h2, rfl, h4⟩
  | d :: ds, found, st, o3, o4, o5, o6, o7, h1, h2, h3, h4 => by
    rw [List.length_cons] at h3
    obtain ⟨s, o4', o5', st', e, q1, q2, q3⟩ := names_step (k := k) (o1 := o1) (o3 := some d) (o4 := o4) (o5 := o5) (o6 := o6) (o7 := o7) h1 h2 (by omega) h4
    obtain ⟨found', p3, p4, p5, p6, p7, st2, e2, r1, r2, r3, r4⟩ := names_loop (o1 := o1) ds (found ++ [s]) st' (some d) o4' o5' o6 o7 (by
      refine List.nodup_append.mpr ⟨h1, by simp, ?_⟩
      intro a ha b hb
      rw [List.mem_singleton.mp hb]
      rintro rfl
      exact q2 ha) (fun x hx => (List.mem_append.mp hx).elim (h2 x) fun hx => by rw [List.mem_singleton.mp hx]; exact q1) (by rw [List.length_append, List.length_singleton]; omega) q3
    refine ⟨found', p3, p4, p5, p6, p7, st2, ?_, r1, r2, by rw [r3, List.length_append, List.length_singleton, List.length_cons]; omega, r4⟩
    rw [evFor]
    show R.bind (evSs (cfN tab (k + 4)) nmb [some (.ref 1), o1, some (.ref (rest.length + 2)), some d, o4, o5, o6, o7] st) _ = _
    rw [e, R.bind_some]
    exact e2
theorem names_ok {m : Nat} (hm : m ≤ 5) (h : Sx ns rest st) : ∃ (L : List Str) (st' : Store), cfN tab (k + 5) F_law_names [.ref 1, .int m] st = some (nmD L, st') ∧ L.Nodup ∧ (∀ x ∈ L, Nm x) ∧ L.length = m ∧ Sx ns rest st' := by
  have hlen := h.len
  have h0 : Sx ns (rest ++ [.lst (([] : List Str).map D.str)]) (st ++ [.lst []]) := h.add [.lst []]
  obtain ⟨L, o3, o4, o5, o6, o7, st1, e, q1, q2, q3, q4⟩ := names_loop (k := k) (o1 := some (.int m)) (rngD 0 (m : Int)) [] (st ++ [.lst []]) none none none none none List.nodup_nil (fun x hx => by cases hx) (by unfold rngD; simp; omega) h0
  have hL : L.length = m := by
    rw [q3]
    unfold rngD
    simp
  have s1 : evS (cfN tab (k + 4)) (.asg (.nm 2) (.nlst [])) [some (.ref 1), some (.int m), none, none, none, none, none, none] st = some (.nx [some (.ref 1), some (.int m), some (.ref (rest.length + 2)), none, none, none, none, none], st ++ [.lst []]) := by
    refine asg_ok (x := .ref (rest.length + 2)) ?_ rfl
    rw [x_nlst, x_Es0, R.bind_some, if_pos (by rfl), hlen]
  have s2 : evS (cfN tab (k + 4)) (.for_ (.nm 3) (.rng (.var 1)) nmb) [some (.ref 1), some (.int m), some (.ref (rest.length + 2)), none, none, none, none, none] (st ++ [.lst []]) = some (.nx [some (.ref 1), some (.int m), some (.ref (rest.length + 2)), o3, o4, o5, o6, o7], st1) := by
    have hi : evI (cfN tab (k + 4)) (.rng (.var 1)) [some (.ref 1), some (.int m), some (.ref (rest.length + 2)), none, none, none, none, none] (st ++ [.lst []]) = some (rngD 0 (m : Int), st ++ [.lst []]) := by
      rw [x_rng, var_ok (d := .int m) rfl, R.bind_some]
      exact if_pos (rng_le (by omega))
    rw [x_for, hi, R.bind_some]
    exact e
  have s3 : evS (cfN tab (k + 4)) (.frz 2) [some (.ref 1), some (.int m), some (.ref (rest.length + 2)), o3, o4, o5, o6, o7] st1 = some (.nx [some (.ref 1), some (.int m), some (nmD L), o3, o4, o5, o6, o7], st1.set (rest.length + 2) .dead) := by
    rw [x_frz]
    simp only [List.getElem?_cons_succ, List.getElem?_cons_zero, q4.get]
    rfl
  have hc : (nmD L).clean = true := (Pl.lst (n := 0) (.of fun d hd => by
    obtain ⟨s, hs, rfl⟩ := List.mem_map.mp hd
    exact .str _ (q2 s hs).ok)).clean
  obtain ⟨st3, e3, h3⟩ := run_x (k := k + 4) (f := ir_law_names) (i := F_law_names) (ds := [.ref 1, .int m]) (more := [.dead]) h rfl rfl (show evSs (cfN tab (k + 4)) [_, _, _, _] [some (.ref 1), some (.int m), none, none, none, none, none, none] st = some (.rt (nmD L), _) by
    rw [Ss_nx s1, Ss_nx s2, Ss_nx s3, Ss_rt (ret_ok (var_ok rfl))]) hc q4.set
  exact ⟨L, st3, e3, q1, q2, hL, h3⟩
/-! ### rooms -/
abbrev rmb : List S := [.asg (.nm 6) (.call F_law_draw [(.var 0), (.bin .Add (.var 5) (.con (.int 1)))]),
     .ex (.mt .append (.var 4) [(.bin .Add (.con (.int 1)) (.var 6))]),
     .asg (.nm 5) (.bin .Sub (.var 5) (.var 6))]
theorem rooms_loop {o1 o2 : Option D} {tot : Int} (ht : tot ≤ 1000) : ∀ (ds : List D) (found : List Int) (left : Int) (st : Store) (o3 o6 : Option D), (∀ x ∈ found, 1 ≤ x) → 0 ≤ left → left + found.sum = tot + found.length → found.length + ds.length ≤ 100 → left ≤ 1000 → Sx ns (rest ++ [.lst (found.map D.int)]) st →
    ∃ (found' : List Int) (left' : Int) (o3' o6' : Option D) (st' : Store), evFor (.nm 3) (fun env st => evSs (cfN tab (k + 2)) rmb env st) ds [some (.ref 1), o1, o2, o3, some (.ref (rest.length + 2)), some (.int left), o6] st = some (.nx [some (.ref 1), o1, o2, o3', some (.ref (rest.length + 2)), some (.int left'), o6'], st') ∧ (∀ x ∈ found', 1 ≤ x) ∧ 0 ≤ left' ∧ left' + found'.sum = tot + found'.length ∧ found'.length = found.length + ds.length ∧ Sx ns (rest ++ [.lst (found'.map D.int)]) st'
  | [], found, left, st, o3, o6, h1, h2, h3, h4, h5, h6 => ⟨found, left, o3, o6, st, rfl, h1, h2, h3, rfl, h6⟩
  | d :: ds, found, left, st, o3, o6, h1, h2, h3, h4, h5, h6 => by
    rw [List.length_cons] at h4
    obtain ⟨r, st1, e1, r0, r1, q1⟩ := draw_ok (k := k) (many := left + 1) (by omega) (by omega) h6
    have s1 : evS (cfN tab (k + 2)) (.asg (.nm 6) (.call F_law_draw [(.var 0), (.bin .Add (.var 5) (.con (.int 1)))])) [some (.ref 1), o1, o2, some d, some (.ref (rest.length + 2)), some (.int left), o6] st = some (.nx [some (.ref 1), o1, o2, some d, some (.ref (rest.length + 2)), some (.int left), some (.int r)], st1) := by
      simp only [x_var, x_con, x_glob, x_tup, x_lst, x_bin, x_neg, x_inv, x_cmp, x_not, x_ite, x_ix, x_sl, x_call, x_bi, x_Es0, x_Es1, x_O0, x_O1, x_C0, x_asg, x_par2, x_aug, x_if, x_ret, x_ex, x_never, x_Ss0, x_Ss1, R.bind_some, List.getElem?_cons_zero, List.getElem?_cons_succ, List.set_cons_zero, List.set_cons_succ, Option.map_some, List.map_cons, List.map_nil, List.replicate, List.cons_append, List.nil_append, List.append_nil, Nat.sub_self, asg_nm, asg_tup, asgs_nil, asgs_cons, List.length_cons, List.length_nil, rd'_int, rd'_str, rd'_tup, rd_lst', rd_bl, rd_non, rd_scr, t_bl, t_int, t_non, Nat.reduceAdd, Nat.reduceLT, reduceIte, and_self, d_add, e1]
    have s2 : evS (cfN tab (k + 2)) (.ex (.mt .append (.var 4) [(.bin .Add (.con (.int 1)) (.var 6))])) [some (.ref 1), o1, o2, some d, some (.ref (rest.length + 2)), some (.int left), some (.int r)] st1 = some (.nx [some (.ref 1), o1, o2, some d, some (.ref (rest.length + 2)), some (.int left), some (.int r)], st1.set (rest.length + 2) (.lst (found.map D.int ++ [.int (1 + r)]))) := by
      rw [x_ex, x_mt, var_ok (d := .ref (rest.length + 2)) rfl, R.bind_some, if_pos (top_ty q1), x_Es1, bin_ok (z := .int (1 + r)) x_con (var_ok (d := .int r) rfl) rfl, R.bind_some, x_Es0, R.bind_some, R.bind_some, top_app q1 rfl (by rw [List.length_map]; omega)]
      rfl
    have q2 := q1.set (m' := .lst (found.map D.int ++ [.int (1 + r)]))
    generalize st1.set (rest.length + 2) (.lst (found.map D.int ++ [.int (1 + r)])) = st2 at *
    have s3 : evS (cfN tab (k + 2)) (.asg (.nm 5) (.bin .Sub (.var 5) (.var 6))) [some (.ref 1), o1, o2, some d, some (.ref (rest.length + 2)), some (.int left), some (.int r)] st2 = some (.nx [some (.ref 1), o1, o2, some d, some (.ref (rest.length + 2)), some (.int (left - r)), some (.int r)], st2) := by
      simp only [x_var, x_con, x_glob, x_tup, x_lst, x_bin, x_neg, x_inv, x_cmp, x_not, x_ite, x_ix, x_sl, x_call, x_bi, x_Es0, x_Es1, x_O0, x_O1, x_C0, x_asg, x_par2, x_aug, x_if, x_ret, x_ex, x_never, x_Ss0, x_Ss1, R.bind_some, List.getElem?_cons_zero, List.getElem?_cons_succ, List.set_cons_zero, List.set_cons_succ, Option.map_some, List.map_cons, List.map_nil, List.replicate, List.cons_append, List.nil_append, List.append_nil, Nat.sub_self, asg_nm, asg_tup, asgs_nil, asgs_cons, List.length_cons, List.length_nil, rd'_int, rd'_str, rd'_tup, rd_lst', rd_bl, rd_non, rd_scr, t_bl, t_int, t_non, Nat.reduceAdd, Nat.reduceLT, reduceIte, and_self, d_sub]
    obtain ⟨found', left', o3', o6', st3, e, p1, p2, p3, p4, p5⟩ := rooms_loop (o1 := o1) (o2 := o2) ht ds (found ++ [1 + r]) (left - r) st2 (some d) (some (.int r)) (fun x hx => (List.mem_append.mp hx).elim (h1 x) fun hx => by rw [List.mem_singleton.mp hx]; omega) (by omega) (by rw [List.sum_append, List.length_append, List.length_singleton, List.sum_singleton]; omega) (by rw [List.length_append, List.length_singleton]; omega) (by omega) (by rw [List.map_append]; exact q2)
    refine ⟨found', left', o3', o6', st3, ?_, p1, p2, p3, by rw [p4, List.length_append, List.length_singleton, List.length_cons]; omega, p5⟩
    rw [evFor]
    show R.bind (evSs (cfN tab (k + 2)) rmb [some (.ref 1), o1, o2, some d, some (.ref (rest.length + 2)), some (.int left), o6] st) _ = _
    rw [Ss_nx s1, Ss_nx s2, Ss_nx s3, x_Ss0, R.bind_some]
    exact e
theorem rooms_ok {room : Int} (h3 : 3 ≤ room) (hr : room ≤ 100) (h : Sx ns rest st) : ∃ (a b c : Int) (st' : Store), cfN tab (k + 3) F_law_rooms [.ref 1, .int room, .int 3] st = some (.lst [.int a, .int b, .int c], st') ∧ 1 ≤ a ∧ 1 ≤ b ∧ 1 ≤ c ∧ a + b + c ≤ room ∧ Sx ns rest st' := by
  have hlen := h.len
  have h0 : Sx ns (rest ++ [.lst (([] : List Int).map D.int)]) (st ++ [.lst []]) := h.add [.lst []]
  obtain ⟨fs, left, o3, o6, st1, e, q1, q2, q3, q4, q5⟩ := rooms_loop (k := k) (o1 := some (.int room)) (o2 := some (.int 3)) (tot := room - 3) (by omega) (rngD 0 3) [] (room - 3) (st ++ [.lst []]) none none (fun x hx => by cases hx) (by omega) (by simp) (by decide) (by omega) h0
  have hL : fs.length = 3 := q4
  obtain ⟨a, b, c, rfl⟩ : ∃ a b c, fs = [a, b, c] := by
    match fs, hL with
    | [a, b, c], _ => exact ⟨a, b, c, rfl⟩
  have s1 : evS (cfN tab (k + 2)) (.par2 4 5 (.nlst []) (.bin .Sub (.var 1) (.var 2))) [some (.ref 1), some (.int room), some (.int 3), none, none, none, none] st = some (.nx [some (.ref 1), some (.int room), some (.int 3), none, some (.ref (rest.length + 2)), some (.int (room - 3)), none], st ++ [.lst []]) := by
    rw [x_par2, x_nlst, x_Es0, R.bind_some, if_pos (by rfl), R.bind_some, bin_ok (z := .int (room - 3)) (var_ok (d := .int room) rfl) (var_ok (d := .int 3) rfl) rfl, hlen]
    rfl
  have s2 : evS (cfN tab (k + 2)) (.for_ (.nm 3) (.rng (.var 2)) rmb) [some (.ref 1), some (.int room), some (.int 3), none, some (.ref (rest.length + 2)), some (.int (room - 3)), none] (st ++ [.lst []]) = some (.nx [some (.ref 1), some (.int room), some (.int 3), o3, some (.ref (rest.length + 2)), some (.int left), o6], st1) := by
    have hi : evI (cfN tab (k + 2)) (.rng (.var 2)) [some (.ref 1), some (.int room), some (.int 3), none, some (.ref (rest.length + 2)), some (.int (room - 3)), none] (st ++ [.lst []]) = some (rngD 0 3, st ++ [.lst []]) := by
      rw [x_rng, var_ok (d := .int 3) rfl, R.bind_some]
      exact if_pos (rng_le (n := 3) (by omega))
    rw [x_for, hi, R.bind_some]
    exact e
  have s3 : evS (cfN tab (k + 2)) (.frz 4) [some (.ref 1), some (.int room), some (.int 3), o3, some (.ref (rest.length + 2)), some (.int left), o6] st1 = some (.nx [some (.ref 1), some (.int room), some (.int 3), o3, some (.lst [.int a, .int b, .int c]), some (.int left), o6], st1.set (rest.length + 2) .dead) := by
    rw [x_frz]
    simp only [List.getElem?_cons_succ, List.getElem?_cons_zero, q5.get]
    rfl
  obtain ⟨st3, e3, h3⟩ := run_x (k := k + 2) (f := ir_law_rooms) (i := F_law_rooms) (ds := [.ref 1, .int room, .int 3]) (more := [.dead]) h rfl rfl (show evSs (cfN tab (k + 2)) [_, _, _, _] [some (.ref 1), some (.int room), some (.int 3), none, none, none, none] st = some (.rt (.lst [.int a, .int b, .int c]), _) by
    rw [Ss_nx s1, Ss_nx s2, Ss_nx s3, Ss_rt (ret_ok (var_ok rfl))]) rfl q5.set
  simp at q3
  exact ⟨a, b, c, st3, e3, q1 a (by simp), q1 b (by simp), q1 c (by simp), by omega, h3⟩
end
end Kw

set_option Elab.async false
set_option linter.all false
set_option maxRecDepth 100000
set_option maxHeartbeats 1000000
/-! Law k03: formulas that are drawn. -/
namespace Kw
open PySem
section
variable {K : Nat} {st : Store} {ns : List Int} {rest : Store}
theorem draw_ge (hK : 2 ≤ K) {many : Int} (hm : 0 < many) (hm2 : many < 1073741824) (h : Sx ns rest st) : ∃ (r : Int) (st' : Store), cfN tab K F_law_draw [.ref 1, .int many] st = some (.int r, st') ∧ 0 ≤ r ∧ r < many ∧ Sx ns rest st' := by
  obtain ⟨k, rfl⟩ : ∃ k, K = k + 2 := ⟨K - 2, by omega⟩
  exact draw_ok hm hm2 h
theorem one_ge (hK : 3 ≤ K) {things : List D} (h0 : 0 < things.length) (hl : things.length ≤ 1000) (hc : ∀ d ∈ things, d.clean = true) (h : Sx ns rest st) : ∃ d st', cfN tab K F_law_one [.ref 1, .lst things] st = some (d, st') ∧ d ∈ things ∧ Sx ns rest st' := by
  obtain ⟨k, rfl⟩ : ∃ k, K = k + 3 := ⟨K - 3, by omega⟩
  exact one_lst h0 hl hc h
theorem rooms_ge (hK : 3 ≤ K) {room : Int} (h3 : 3 ≤ room) (hr : room ≤ 100) (h : Sx ns rest st) : ∃ (a b c : Int) (st' : Store), cfN tab K F_law_rooms [.ref 1, .int room, .int 3] st = some (.lst [.int a, .int b, .int c], st') ∧ 1 ≤ a ∧ 1 ≤ b ∧ 1 ≤ c ∧ a + b + c ≤ room ∧ Sx ns rest st' := by
  obtain ⟨k, rfl⟩ : ∃ k, K = k + 3 := ⟨K - 3, by omega⟩
  exact rooms_ok h3 hr h
theorem ev_tup2 {cf : CF} {a b : D} {env : Env} : evE cf (.tup [.con a, .con b]) env st = some (.tup [a, b], st) := by simp only [x_var, x_con, x_glob, x_tup, x_lst, x_bin, x_neg, x_inv, x_cmp, x_not, x_ite, x_ix, x_sl, x_call, x_bi, x_Es0, x_Es1, x_O0, x_O1, x_C0, x_asg, x_par2, x_aug, x_if, x_ret, x_ex, x_never, x_Ss0, x_Ss1, R.bind_some, List.getElem?_cons_zero, List.getElem?_cons_succ, List.set_cons_zero, List.set_cons_succ, Option.map_some, List.map_cons, List.map_nil, List.replicate, List.cons_append, List.nil_append, List.append_nil, Nat.sub_self, asg_nm, asg_tup, asgs_nil, asgs_cons, List.length_cons, List.length_nil, rd'_int, rd'_str, rd'_tup, rd_lst', rd_bl, rd_non, rd_scr, t_bl, t_int, t_non, Nat.reduceAdd, Nat.reduceLT, reduceIte, and_self]
theorem ev_lst0 {cf : CF} {env : Env} : evE cf (.lst []) env st = some (.lst [], st) := by simp only [x_var, x_con, x_glob, x_tup, x_lst, x_bin, x_neg, x_inv, x_cmp, x_not, x_ite, x_ix, x_sl, x_call, x_bi, x_Es0, x_Es1, x_O0, x_O1, x_C0, x_asg, x_par2, x_aug, x_if, x_ret, x_ex, x_never, x_Ss0, x_Ss1, R.bind_some, List.getElem?_cons_zero, List.getElem?_cons_succ, List.set_cons_zero, List.set_cons_succ, Option.map_some, List.map_cons, List.map_nil, List.replicate, List.cons_append, List.nil_append, List.append_nil, Nat.sub_self, asg_nm, asg_tup, asgs_nil, asgs_cons, List.length_cons, List.length_nil, rd'_int, rd'_str, rd'_tup, rd_lst', rd_bl, rd_non, rd_scr, t_bl, t_int, t_non, Nat.reduceAdd, Nat.reduceLT, reduceIte, and_self]
theorem if_t {cf : CF} {c : E} {a b : List S} {env : Env} {st1 : Store} (h : evE cf c env st = some (.bl true, st1)) : evS cf (.if_ c a b) env st = evSs cf a env st1 := by
  rw [x_if, h]
  rfl
theorem if_f {cf : CF} {c : E} {a b : List S} {env : Env} {st1 : Store} (h : evE cf c env st = some (.bl false, st1)) : evS cf (.if_ c a b) env st = evSs cf b env st1 := by
  rw [x_if, h]
  rfl
theorem ev_or3 {cf : CF} {a b c : E} {p q r : Bool} {env : Env} (ha : evE cf a env st = some (.bl p, st)) (hb : evE cf b env st = some (.bl q, st)) (hc : evE cf c env st = some (.bl r, st)) : evE cf (.or [a, b, c]) env st = some (.bl (p || (q || r)), st) := by
  have := ev_or2 hb hc
  rw [x_or] at this
  rw [x_or, evOr]
  simp only [ha, R.bind_some]
  cases p
  · exact this
  · rfl
theorem in_ii {a b w : Int} : cmpD .In st (.int w) (.tup [.int a, .int b]) = some (decide (a = w) || decide (b = w)) := by
  have h1 : eqOk (.int w) = true := Pl.eqOk (.int 0 w) (by omega)
  have h2 : eqOk (.tup [.int a, .int b]) = true := Pl.eqOk (.tup (.cons (.int 0 a) (.cons (.int 0 b) (.nil 0)))) (by omega)
  show (if eqOk (.int w) && eqOk (.tup [.int a, .int b]) then some (([D.int a, D.int b]).any fun z => PyData.eqv z.py (D.int w).py) else none) = _
  rw [if_pos (by rw [h1, h2]; rfl)]
  simp only [List.any_cons, List.any_nil, Bool.or_false, eqv_ii]
theorem x_lc3 {cf : CF} {elt : E} {g : G} {it : It} {own : List Nat} {env env1 env2 env3 : Env} {st st0 st1 st2 st3 : Store} {a b c x y z : D} (hi : evI cf it env st = some ([a, b, c], st0))
    (a1 : asgG g a (wipeD env own) = some env1) (e1 : evE cf elt env1 st0 = some (x, st1)) (a2 : asgG g b (wipeD env own) = some env2) (e2 : evE cf elt env2 st1 = some (y, st2)) (a3 : asgG g c (wipeD env own) = some env3) (e3 : evE cf elt env3 st2 = some (z, st3)) :
    evE cf (.lc false elt g it none own) env st = some (.lst [x, y, z], st3) := by
  have f1 : lcF (evC cf none) (evE cf elt) g own env a st0 = some (some x, st1) := by rw [lcF_no a1, x_C0, R.bind_some, if_pos rfl, e1, R.bind_some]
  have f2 : lcF (evC cf none) (evE cf elt) g own env b st1 = some (some y, st2) := by rw [lcF_no a2, x_C0, R.bind_some, if_pos rfl, e2, R.bind_some]
  have f3 : lcF (evC cf none) (evE cf elt) g own env c st2 = some (some z, st3) := by rw [lcF_no a3, x_C0, R.bind_some, if_pos rfl, e3, R.bind_some]
  rw [x_lc, hi, R.bind_some, evLc, f1, R.bind_some, evLc, f2, R.bind_some, evLc, f3, R.bind_some, evLc, R.bind_some, R.bind_some, R.bind_some, R.bind_some]
  exact if_pos (lim10 (by simp))
theorem not_nil {L : List Str} (hL : ∀ s ∈ L, Nm s) (h0 : 0 < L.length) : cmpD .NotEq st (nmD L) (.lst []) = some true := by
  rw [nmD, cmp_ne_nil (pls_strs fun s hs => (hL s hs).ok) (by omega)]
  cases L with
  | nil => cases h0
  | cons _ _ => rfl
theorem one_nm {L : List Str} (hK : 3 ≤ K) (h0 : 0 < L.length) (hl : L.length ≤ 1000) (h : Sx ns rest st) : ∃ s st', cfN tab K F_law_one [.ref 1, nmD L] st = some (.str s, st') ∧ s ∈ L ∧ Sx ns rest st' := by
  obtain ⟨d, st', e, hd, h'⟩ := one_ge hK (things := L.map D.str) (by rw [List.length_map]; exact h0) (by rw [List.length_map]; exact hl) (fun d hd => by obtain ⟨s, _, rfl⟩ := List.mem_map.mp hd; rfl) h
  obtain ⟨s, hs, rfl⟩ := List.mem_map.mp hd
  exact ⟨s, st', e, hs, h'⟩
def MF (L : List Str) (f : Fm) (room : Int) (n : Nat) : Prop := (f.size : Int) ≤ room ∧ f.deep ≤ n ∧ ∀ s ∈ f.names, s ∈ L
def mE (L : List Str) (room : Int) (n : Nat) (o4 o5 o6 o7 o8 o9 o10 : Option D) : Env := [some (.ref 1), some (nmD L), some (.int room), some (.int n), o4, o5, o6, o7, o8, o9, o10]
def nmT (d : D) : D := .tup [.str "name", d]
def leafs (L : List Str) : List Fm := [.yes, .no] ++ (List.replicate 3 (L.map Fm.nm)).flatten
theorem leafs_mem {L : List Str} {f : Fm} (h : f ∈ leafs L) : f = .yes ∨ f = .no ∨ ∃ s ∈ L, f = .nm s := by
  unfold leafs at h
  rcases List.mem_append.mp h with h | h
  · simp at h
    rcases h with rfl | rfl
    · exact .inl rfl
    · exact .inr (.inl rfl)
  · obtain ⟨l, h1, h2⟩ := List.mem_flatten.mp h
    rw [List.eq_of_mem_replicate h1] at h2
    obtain ⟨s, hs, rfl⟩ := List.mem_map.mp h2
    exact .inr (.inr ⟨s, hs, rfl⟩)
theorem sum_rep (n m : Nat) : (List.replicate n m).sum = n * m := by
  induction n with
  | zero => simp
  | succ n ih => rw [List.replicate_succ, List.sum_cons, ih, Nat.succ_mul]; omega
theorem leafs_len {L : List Str} : (leafs L).length = 2 + 3 * L.length := by
  unfold leafs
  simp [sum_rep]
  omega
theorem made_all {L : List Str} (hL : ∀ s ∈ L, Nm s) (h0 : 0 < L.length) (hl : L.length ≤ 100) (n : Nat) (ih : ∀ n', n' + 1 = n → ∀ K, n' + 6 ≤ K → ∀ (room : Int) (st : Store), 1 ≤ room → room ≤ 100 → Sx ns rest st → ∃ f st', cfN tab K F_law_made [.ref 1, nmD L, .int room, .int n'] st = some (f.d, st') ∧ MF L f room n' ∧ Sx ns rest st') :
    ∀ K, n + 6 ≤ K → ∀ (room : Int) (st : Store), 1 ≤ room → room ≤ 100 → Sx ns rest st → ∃ f st', cfN tab K F_law_made [.ref 1, nmD L, .int room, .int n] st = some (f.d, st') ∧ MF L f room n ∧ Sx ns rest st' := by
  intro K hK room st r1 r2 h
  obtain ⟨K, rfl⟩ : ∃ j, K = j + 1 := ⟨K - 1, by omega⟩
  have fin : ∀ (f : Fm) (st1 : Store), evSs (cfN tab K) ir_law_made.body (mE L room n none none none none none none none) st = some (.rt f.d, st1) → MF L f room n → Sx ns rest st1 → ∃ f st', cfN tab (K + 1) F_law_made [.ref 1, nmD L, .int room, .int n] st = some (f.d, st') ∧ MF L f room n ∧ Sx ns rest st' := fun f st1 e m h1 => by
    obtain ⟨st2, e2, h2⟩ := run_x0 (k := K) (f := ir_law_made) (i := F_law_made) (ds := [.ref 1, nmD L, .int room, .int n]) h rfl rfl e (pl_fm f fun s hs => hL s (m.2.2 s hs)).clean h1
    exact ⟨f, st2, e2, m, h2⟩
  obtain ⟨w, st1, e1, w0, w1, h1⟩ := draw_ge (K := K) (by omega) (many := 12) (by decide) (by decide) h
  have s1 : evS (cfN tab K) (.asg (.nm 4) (.call F_law_draw [(.var 0), (.con (.int 12))])) (mE L room n none none none none none none none) st = some (.nx (mE L room n (some (.int w)) none none none none none none), st1) := by
    refine asg_ok (x := .int w) ?_ rfl
    simp only [mE, x_var, x_con, x_glob, x_tup, x_lst, x_bin, x_neg, x_inv, x_cmp, x_not, x_ite, x_ix, x_sl, x_call, x_bi, x_Es0, x_Es1, x_O0, x_O1, x_C0, x_asg, x_par2, x_aug, x_if, x_ret, x_ex, x_never, x_Ss0, x_Ss1, R.bind_some, List.getElem?_cons_zero, List.getElem?_cons_succ, List.set_cons_zero, List.set_cons_succ, Option.map_some, List.map_cons, List.map_nil, List.replicate, List.cons_append, List.nil_append, List.append_nil, Nat.sub_self, asg_nm, asg_tup, asgs_nil, asgs_cons, List.length_cons, List.length_nil, rd'_int, rd'_str, rd'_tup, rd_lst', rd_bl, rd_non, rd_scr, t_bl, t_int, t_non, Nat.reduceAdd, Nat.reduceLT, reduceIte, and_self, e1]
  have c2 : evE (cfN tab K) ((.or [(.cmp .Lt (.var 2) (.con (.int 4))), (.cmp .Eq (.var 3) (.con (.int 0))), (.cmp .Eq (.var 4) (.con (.int 0)))])) (mE L room n (some (.int w)) none none none none none none) st1 = some (.bl (decide (room < 4) || (decide ((n : Int) = 0) || decide (w = 0))), st1) := by
    refine ev_or3 ?_ ?_ ?_
    · simp only [mE, x_var, x_con, x_glob, x_tup, x_lst, x_bin, x_neg, x_inv, x_cmp, x_not, x_ite, x_ix, x_sl, x_call, x_bi, x_Es0, x_Es1, x_O0, x_O1, x_C0, x_asg, x_par2, x_aug, x_if, x_ret, x_ex, x_never, x_Ss0, x_Ss1, R.bind_some, List.getElem?_cons_zero, List.getElem?_cons_succ, List.set_cons_zero, List.set_cons_succ, Option.map_some, List.map_cons, List.map_nil, List.replicate, List.cons_append, List.nil_append, List.append_nil, Nat.sub_self, asg_nm, asg_tup, asgs_nil, asgs_cons, List.length_cons, List.length_nil, rd'_int, rd'_str, rd'_tup, rd_lst', rd_bl, rd_non, rd_scr, t_bl, t_int, t_non, Nat.reduceAdd, Nat.reduceLT, reduceIte, and_self, cmp_lt]
    · simp only [mE, x_var, x_con, x_glob, x_tup, x_lst, x_bin, x_neg, x_inv, x_cmp, x_not, x_ite, x_ix, x_sl, x_call, x_bi, x_Es0, x_Es1, x_O0, x_O1, x_C0, x_asg, x_par2, x_aug, x_if, x_ret, x_ex, x_never, x_Ss0, x_Ss1, R.bind_some, List.getElem?_cons_zero, List.getElem?_cons_succ, List.set_cons_zero, List.set_cons_succ, Option.map_some, List.map_cons, List.map_nil, List.replicate, List.cons_append, List.nil_append, List.append_nil, Nat.sub_self, asg_nm, asg_tup, asgs_nil, asgs_cons, List.length_cons, List.length_nil, rd'_int, rd'_str, rd'_tup, rd_lst', rd_bl, rd_non, rd_scr, t_bl, t_int, t_non, Nat.reduceAdd, Nat.reduceLT, reduceIte, and_self, cmp_ii]
    · simp only [mE, x_var, x_con, x_glob, x_tup, x_lst, x_bin, x_neg, x_inv, x_cmp, x_not, x_ite, x_ix, x_sl, x_call, x_bi, x_Es0, x_Es1, x_O0, x_O1, x_C0, x_asg, x_par2, x_aug, x_if, x_ret, x_ex, x_never, x_Ss0, x_Ss1, R.bind_some, List.getElem?_cons_zero, List.getElem?_cons_succ, List.set_cons_zero, List.set_cons_succ, Option.map_some, List.map_cons, List.map_nil, List.replicate, List.cons_append, List.nil_append, List.append_nil, Nat.sub_self, asg_nm, asg_tup, asgs_nil, asgs_cons, List.length_cons, List.length_nil, rd'_int, rd'_str, rd'_tup, rd_lst', rd_bl, rd_non, rd_scr, t_bl, t_int, t_non, Nat.reduceAdd, Nat.reduceLT, reduceIte, and_self, cmp_ii]
  by_cases hA : (decide (room < 4) || (decide ((n : Int) = 0) || decide (w = 0))) = true
  · rw [hA] at c2
    have hlc : evE (cfN tab K) (.lc false (.tup [(.con (.str "name")), (.var 10)]) (.nm 10) (.seq (.var 1)) none [10]) (mE L room n (some (.int w)) none none none none none none) st1 = some (.lst ((L.map Fm.nm).map Fm.d), st1) := by
      have hi : evI (cfN tab K) (.seq (.var 1)) (mE L room n (some (.int w)) none none none none none none) st1 = some (L.map D.str, st1) := by
        rw [x_seq, var_ok (d := nmD L) rfl]
        rfl
      rw [x_lcp (h := nmT) hi (lim10 (by rw [List.length_map]; omega)) (fun d hd => ?_), List.map_map, List.map_map]
      · rfl
      · refine ⟨mE L room n (some (.int w)) none none none none none (some d), rfl, ?_⟩
        simp only [mE, x_var, x_con, x_glob, x_tup, x_lst, x_bin, x_neg, x_inv, x_cmp, x_not, x_ite, x_ix, x_sl, x_call, x_bi, x_Es0, x_Es1, x_O0, x_O1, x_C0, x_asg, x_par2, x_aug, x_if, x_ret, x_ex, x_never, x_Ss0, x_Ss1, R.bind_some, List.getElem?_cons_zero, List.getElem?_cons_succ, List.set_cons_zero, List.set_cons_succ, Option.map_some, List.map_cons, List.map_nil, List.replicate, List.cons_append, List.nil_append, List.append_nil, Nat.sub_self, asg_nm, asg_tup, asgs_nil, asgs_cons, List.length_cons, List.length_nil, rd'_int, rd'_str, rd'_tup, rd_lst', rd_bl, rd_non, rd_scr, t_bl, t_int, t_non, Nat.reduceAdd, Nat.reduceLT, reduceIte, and_self, nmT]
    have hm : binD .Mult (.lst ((L.map Fm.nm).map Fm.d)) (.int 3) = some (.lst (List.replicate 3 ((L.map Fm.nm).map Fm.d)).flatten) := by
      refine if_pos ⟨by decide, by decide, lim10 ?_⟩
      rw [List.length_map, List.length_map]
      show L.length * 3 ≤ _
      omega
    have hs : evE (cfN tab K) (.bin .Add (.lst [(.tup [(.con (.str "yes"))]), (.tup [(.con (.str "no"))])]) (.bin .Mult (.lc false (.tup [(.con (.str "name")), (.var 10)]) (.nm 10) (.seq (.var 1)) none [10]) (.con (.int 3)))) (mE L room n (some (.int w)) none none none none none none) st1 = some (.lst ((leafs L).map Fm.d), st1) := by
      refine bin_ok (x := .lst [.tup [.str "yes"], .tup [.str "no"]]) (by simp only [x_var, x_con, x_glob, x_tup, x_lst, x_bin, x_neg, x_inv, x_cmp, x_not, x_ite, x_ix, x_sl, x_call, x_bi, x_Es0, x_Es1, x_O0, x_O1, x_C0, x_asg, x_par2, x_aug, x_if, x_ret, x_ex, x_never, x_Ss0, x_Ss1, R.bind_some, List.getElem?_cons_zero, List.getElem?_cons_succ, List.set_cons_zero, List.set_cons_succ, Option.map_some, List.map_cons, List.map_nil, List.replicate, List.cons_append, List.nil_append, List.append_nil, Nat.sub_self, asg_nm, asg_tup, asgs_nil, asgs_cons, List.length_cons, List.length_nil, rd'_int, rd'_str, rd'_tup, rd_lst', rd_bl, rd_non, rd_scr, t_bl, t_int, t_non, Nat.reduceAdd, Nat.reduceLT, reduceIte, and_self]) (bin_ok hlc (y := .int 3) x_con hm) ?_
      rw [rd_lst', rd_lst', d_addL (by
        simp [sum_rep]
        omega)]
      unfold leafs
      rw [List.map_append]
      simp only [List.replicate, List.flatten_cons, List.flatten_nil, List.map_append, List.append_nil]
      rfl
    obtain ⟨d, st2, e2, hd, h2⟩ := one_ge (K := K) (by omega) (things := (leafs L).map Fm.d) (by rw [List.length_map, leafs_len]; omega) (by rw [List.length_map, leafs_len]; omega) (fun d hd => by
      obtain ⟨f, hf, rfl⟩ := List.mem_map.mp hd
      refine (pl_fm f fun s hs => ?_).clean
      rcases leafs_mem hf with rfl | rfl | ⟨t, ht, rfl⟩
      · cases hs
      · cases hs
      · rw [List.mem_singleton.mp hs]
        exact hL t ht) h1
    obtain ⟨f, hf, rfl⟩ := List.mem_map.mp hd
    refine fin f st2 ?_ ?_ h2
    · show evSs (cfN tab K) (_ :: _ :: _) _ st = _
      rw [Ss_nx s1, Ss_rt]
      rw [if_t c2, Ss_nx (asg_ok hs (env1 := mE L room n (some (.int w)) none none (some (.lst ((leafs L).map Fm.d))) none none none) rfl)]
      refine Ss_rt (ret_ok ?_)
      simp only [mE, x_var, x_con, x_glob, x_tup, x_lst, x_bin, x_neg, x_inv, x_cmp, x_not, x_ite, x_ix, x_sl, x_call, x_bi, x_Es0, x_Es1, x_O0, x_O1, x_C0, x_asg, x_par2, x_aug, x_if, x_ret, x_ex, x_never, x_Ss0, x_Ss1, R.bind_some, List.getElem?_cons_zero, List.getElem?_cons_succ, List.set_cons_zero, List.set_cons_succ, Option.map_some, List.map_cons, List.map_nil, List.replicate, List.cons_append, List.nil_append, List.append_nil, Nat.sub_self, asg_nm, asg_tup, asgs_nil, asgs_cons, List.length_cons, List.length_nil, rd'_int, rd'_str, rd'_tup, rd_lst', rd_bl, rd_non, rd_scr, t_bl, t_int, t_non, Nat.reduceAdd, Nat.reduceLT, reduceIte, and_self, e2]
    · rcases leafs_mem hf with rfl | rfl | ⟨t, ht, rfl⟩
      · exact ⟨r1, Nat.zero_le _, fun s hs => by cases hs⟩
      · exact ⟨r1, Nat.zero_le _, fun s hs => by cases hs⟩
      · exact ⟨r1, Nat.zero_le _, fun s hs => by rw [List.mem_singleton.mp hs]; exact ht⟩
  · have hA' := Bool.eq_false_iff.mpr hA
    rw [hA'] at c2
    simp only [Bool.or_eq_false_iff, decide_eq_false_iff_not] at hA'
    obtain ⟨hr4, hn0, hw0⟩ := hA'
    obtain ⟨n, rfl⟩ : ∃ j, n = j + 1 := ⟨n - 1, by omega⟩
    have IH := ih n rfl
    have dn : binD .Sub (.int ((n + 1 : Nat) : Int)) (.int 1) = some (.int (n : Int)) := by
      show some (D.int (((n + 1 : Nat) : Int) - 1)) = _
      rw [show ((n + 1 : Nat) : Int) - 1 = n by omega]
    have s2 : evS (cfN tab K) (.if_ (.or [(.cmp .Lt (.var 2) (.con (.int 4))), (.cmp .Eq (.var 3) (.con (.int 0))), (.cmp .Eq (.var 4) (.con (.int 0)))]) [.asg (.nm 7) (.bin .Add (.lst [(.tup [(.con (.str "yes"))]), (.tup [(.con (.str "no"))])]) (.bin .Mult (.lc false (.tup [(.con (.str "name")), (.var 10)]) (.nm 10) (.seq (.var 1)) none [10]) (.con (.int 3)))), .ret (.call F_law_one [(.var 0), (.var 7)])] []) (mE L room (n + 1) (some (.int w)) none none none none none none) st1 = some (.nx (mE L room (n + 1) (some (.int w)) none none none none none none), st1) := by
      rw [if_f c2, x_Ss0]
    have nn : ∀ {st : Store}, cmpD .NotEq st (nmD L) (.lst []) = some true := not_nil hL h0
    have made : ∀ (rm : Int) (stx : Store) (env : Env) (e : E), 1 ≤ rm → rm ≤ 100 → Sx ns rest stx → evE (cfN tab K) e env stx = some (.int rm, stx) → env[0]? = some (some (.ref 1)) → env[1]? = some (some (nmD L)) → env[3]? = some (some (.int ((n + 1 : Nat) : Int))) → ∃ f st', evE (cfN tab K) (.call F_law_made [(.var 0), (.var 1), e, (.bin .Sub (.var 3) (.con (.int 1)))]) env stx = some (f.d, st') ∧ MF L f rm n ∧ Sx ns rest st' := fun rm stx env e q1 q2 hx he v0 v1 v3 => by
      obtain ⟨f, st', e1, m1, h1⟩ := IH K (by omega) rm stx q1 q2 hx
      refine ⟨f, st', ?_, m1, h1⟩
      rw [x_call, x_Es1, var_ok v0, R.bind_some, x_Es1, var_ok v1, R.bind_some, x_Es1, he, R.bind_some, x_Es1, bin_ok (var_ok v3) x_con dn, R.bind_some, x_Es0]
      exact e1
    by_cases hB : (decide (1 = w) || decide (2 = w)) = true
    · obtain ⟨f, st2, e2, m2, h2⟩ := made (room - 1) st1 (mE L room (n + 1) (some (.int w)) none none none none none none) (.bin .Sub (.var 2) (.con (.int 1))) (by omega) (by omega) h1 (bin_ok (var_ok (d := .int room) rfl) x_con rfl) rfl rfl rfl
      refine fin (.not f) st2 ?_ ⟨?_, ?_, m2.2.2⟩ h2
      · show evSs (cfN tab K) (_ :: _ :: _ :: _) _ st = _
        rw [Ss_nx s1, Ss_nx s2, Ss_rt]
        rw [if_t (cmp_ok (x := .int w) (y := .tup [.int 1, .int 2]) (var_ok rfl) ev_tup2 (in_ii.trans (congrArg some hB)))]
        refine Ss_rt (ret_ok ?_)
        rw [x_tup, x_Es1, x_con, R.bind_some, x_Es1, e2, R.bind_some, x_Es0]
        rfl
      · have := m2.1
        show ((1 + f.size : Nat) : Int) ≤ _
        omega
      · have := m2.2.1
        show 1 + f.deep ≤ _
        omega
    · have hB' := Bool.eq_false_iff.mpr hB
      have s3 : evS (cfN tab K) (.if_ (.cmp .In (.var 4) (.tup [(.con (.int 1)), (.con (.int 2))])) [.ret (.tup [(.con (.str "not")), (.call F_law_made [(.var 0), (.var 1), (.bin .Sub (.var 2) (.con (.int 1))), (.bin .Sub (.var 3) (.con (.int 1)))])])] []) (mE L room (n + 1) (some (.int w)) none none none none none none) st1 = some (.nx (mE L room (n + 1) (some (.int w)) none none none none none none), st1) := by
        rw [if_f (cmp_ok (x := .int w) (y := .tup [.int 1, .int 2]) (var_ok rfl) ev_tup2 (in_ii.trans (congrArg some hB'))), x_Ss0]
      have c4 : evE (cfN tab K) ((.and [(.cmp .In (.var 4) (.tup [(.con (.int 3)), (.con (.int 4))])), (.cmp .NotEq (.var 1) (.lst []))])) (mE L room (n + 1) (some (.int w)) none none none none none none) st1 = some (.bl ((decide (3 = w) || decide (4 = w)) && true), st1) := by
        refine ev_and2 (cmp_ok (x := .int w) (y := .tup [.int 3, .int 4]) (var_ok rfl) ev_tup2 in_ii) (cmp_ok (x := nmD L) (y := .lst []) (var_ok rfl) ev_lst0 nn)
      rw [Bool.and_true] at c4
      by_cases hC : (decide (3 = w) || decide (4 = w)) = true
      · rw [hC] at c4
        obtain ⟨d, st2, e2, hd, h2⟩ := one_ge (K := K) (by omega) (things := [.str "some", .str "all"]) (by decide) (by decide) (fun d hd => by simp at hd; rcases hd with rfl | rfl <;> rfl) h1
        obtain ⟨q, rfl⟩ : ∃ q, d = .str (quW q) := by
          simp at hd
          rcases hd with rfl | rfl
          · exact ⟨true, rfl⟩
          · exact ⟨false, rfl⟩
        obtain ⟨s, st3, e3, hs, h3⟩ := one_nm (K := K) (by omega) h0 (by omega) h2
        obtain ⟨f, st4, e4, m4, h4⟩ := made (room - 1) st3 (mE L room (n + 1) (some (.int w)) none none none (some (.str (quW q))) none none) (.bin .Sub (.var 2) (.con (.int 1))) (by omega) (by omega) h3 (bin_ok (var_ok (d := .int room) rfl) x_con rfl) rfl rfl rfl
        refine fin (.qu q s f) st4 ?_ ⟨?_, ?_, ?_⟩ h4
        · show evSs (cfN tab K) (_ :: _ :: _ :: _ :: _) _ st = _
          rw [Ss_nx s1, Ss_nx s2, Ss_nx s3, Ss_rt]
          have e2' : evE (cfN tab K) (.call F_law_one [(.var 0), (.lst [(.con (.str "some")), (.con (.str "all"))])]) (mE L room (n + 1) (some (.int w)) none none none none none none) st1 = some (.str (quW q), st2) := by simp only [mE, x_var, x_con, x_glob, x_tup, x_lst, x_bin, x_neg, x_inv, x_cmp, x_not, x_ite, x_ix, x_sl, x_call, x_bi, x_Es0, x_Es1, x_O0, x_O1, x_C0, x_asg, x_par2, x_aug, x_if, x_ret, x_ex, x_never, x_Ss0, x_Ss1, R.bind_some, List.getElem?_cons_zero, List.getElem?_cons_succ, List.set_cons_zero, List.set_cons_succ, Option.map_some, List.map_cons, List.map_nil, List.replicate, List.cons_append, List.nil_append, List.append_nil, Nat.sub_self, asg_nm, asg_tup, asgs_nil, asgs_cons, List.length_cons, List.length_nil, rd'_int, rd'_str, rd'_tup, rd_lst', rd_bl, rd_non, rd_scr, t_bl, t_int, t_non, Nat.reduceAdd, Nat.reduceLT, reduceIte, and_self, e2]
          rw [if_t c4, Ss_nx (asg_ok (x := .str (quW q)) (env1 := mE L room (n + 1) (some (.int w)) none none none (some (.str (quW q))) none none) e2' rfl)]
          refine Ss_rt (ret_ok ?_)
          have e3' : evE (cfN tab K) (.call F_law_one [(.var 0), (.var 1)]) (mE L room (n + 1) (some (.int w)) none none none (some (.str (quW q))) none none) st2 = some (.str s, st3) := by simp only [mE, x_var, x_con, x_glob, x_tup, x_lst, x_bin, x_neg, x_inv, x_cmp, x_not, x_ite, x_ix, x_sl, x_call, x_bi, x_Es0, x_Es1, x_O0, x_O1, x_C0, x_asg, x_par2, x_aug, x_if, x_ret, x_ex, x_never, x_Ss0, x_Ss1, R.bind_some, List.getElem?_cons_zero, List.getElem?_cons_succ, List.set_cons_zero, List.set_cons_succ, Option.map_some, List.map_cons, List.map_nil, List.replicate, List.cons_append, List.nil_append, List.append_nil, Nat.sub_self, asg_nm, asg_tup, asgs_nil, asgs_cons, List.length_cons, List.length_nil, rd'_int, rd'_str, rd'_tup, rd_lst', rd_bl, rd_non, rd_scr, t_bl, t_int, t_non, Nat.reduceAdd, Nat.reduceLT, reduceIte, and_self, e3]
          rw [x_tup, x_Es1, var_ok (d := .str (quW q)) rfl, R.bind_some, x_Es1, e3', R.bind_some, x_Es1, e4, R.bind_some, x_Es0]
          rfl
        · have := m4.1
          show ((1 + f.size : Nat) : Int) ≤ _
          omega
        · have := m4.2.1
          show 1 + f.deep ≤ _
          omega
        · intro t ht
          rcases List.mem_cons.mp ht with rfl | ht
          · exact hs
          · exact m4.2.2 t ht
      · have hC' := Bool.eq_false_iff.mpr hC
        rw [hC'] at c4
        have s4 : evS (cfN tab K) (.if_ (.and [(.cmp .In (.var 4) (.tup [(.con (.int 3)), (.con (.int 4))])), (.cmp .NotEq (.var 1) (.lst []))]) [.asg (.nm 8) (.call F_law_one [(.var 0), (.lst [(.con (.str "some")), (.con (.str "all"))])]), .ret (.tup [(.var 8), (.call F_law_one [(.var 0), (.var 1)]), (.call F_law_made [(.var 0), (.var 1), (.bin .Sub (.var 2) (.con (.int 1))), (.bin .Sub (.var 3) (.con (.int 1)))])])] []) (mE L room (n + 1) (some (.int w)) none none none none none none) st1 = some (.nx (mE L room (n + 1) (some (.int w)) none none none none none none), st1) := by
          rw [if_f c4, x_Ss0]
        obtain ⟨a, b, c, st2, e2, a1, b1, cc1, abc, h2⟩ := rooms_ge (K := K) (by omega) (room := room - 1) (by omega) (by omega) h1
        have s5 : evS (cfN tab K) (.asg (.nm 5) (.call F_law_rooms [(.var 0), (.bin .Sub (.var 2) (.con (.int 1))), (.con (.int 3))])) (mE L room (n + 1) (some (.int w)) none none none none none none) st1 = some (.nx (mE L room (n + 1) (some (.int w)) (some (.lst [.int a, .int b, .int c])) none none none none none), st2) := by
          refine asg_ok (x := .lst [.int a, .int b, .int c]) ?_ rfl
          simp only [mE, x_var, x_con, x_glob, x_tup, x_lst, x_bin, x_neg, x_inv, x_cmp, x_not, x_ite, x_ix, x_sl, x_call, x_bi, x_Es0, x_Es1, x_O0, x_O1, x_C0, x_asg, x_par2, x_aug, x_if, x_ret, x_ex, x_never, x_Ss0, x_Ss1, R.bind_some, List.getElem?_cons_zero, List.getElem?_cons_succ, List.set_cons_zero, List.set_cons_succ, Option.map_some, List.map_cons, List.map_nil, List.replicate, List.cons_append, List.nil_append, List.append_nil, Nat.sub_self, asg_nm, asg_tup, asgs_nil, asgs_cons, List.length_cons, List.length_nil, rd'_int, rd'_str, rd'_tup, rd_lst', rd_bl, rd_non, rd_scr, t_bl, t_int, t_non, Nat.reduceAdd, Nat.reduceLT, reduceIte, and_self, d_sub, e2]
        obtain ⟨fa, st3, e3, m3, h3⟩ := made a st2 (mE L room (n + 1) (some (.int w)) (some (.lst [.int a, .int b, .int c])) none none none (some (.int a)) none) (.var 9) a1 (by omega) h2 (var_ok rfl) rfl rfl rfl
        obtain ⟨fb, st4, e4, m4, h4⟩ := made b st3 (mE L room (n + 1) (some (.int w)) (some (.lst [.int a, .int b, .int c])) none none none (some (.int b)) none) (.var 9) b1 (by omega) h3 (var_ok rfl) rfl rfl rfl
        obtain ⟨fc, st5, e5, m5, h5⟩ := made c st4 (mE L room (n + 1) (some (.int w)) (some (.lst [.int a, .int b, .int c])) none none none (some (.int c)) none) (.var 9) cc1 (by omega) h4 (var_ok rfl) rfl rfl rfl
        have s6 : evS (cfN tab K) (.asg (.nm 6) (.lc false (.call F_law_made [(.var 0), (.var 1), (.var 9), (.bin .Sub (.var 3) (.con (.int 1)))]) (.nm 9) (.seq (.var 5)) none [9])) (mE L room (n + 1) (some (.int w)) (some (.lst [.int a, .int b, .int c])) none none none none none) st2 = some (.nx (mE L room (n + 1) (some (.int w)) (some (.lst [.int a, .int b, .int c])) (some (.lst [fa.d, fb.d, fc.d])) none none none none), st5) := by
          refine asg_ok (x := .lst [fa.d, fb.d, fc.d]) ?_ rfl
          refine x_lc3 (a := .int a) (b := .int b) (c := .int c) ?_ rfl e3 rfl e4 rfl e5
          rw [x_seq, var_ok (d := .lst [.int a, .int b, .int c]) rfl]
          rfl
        have q1 := m3.1
        have q2 := m4.1
        have q3 := m5.1
        have dd1 := m3.2.1
        have dd2 := m4.2.1
        have dd3 := m5.2.1
        obtain ⟨env, he⟩ : ∃ env, env = mE L room (n + 1) (some (.int w)) (some (.lst [.int a, .int b, .int c])) (some (.lst [fa.d, fb.d, fc.d])) none none none none := ⟨_, rfl⟩
        have i0 : ∀ {st : Store}, evE (cfN tab K) (.ix (.var 6) (.con (.int 0))) env st = some (fa.d, st) := by
          intro st
          rw [he, x_ix, var_ok (d := .lst [fa.d, fb.d, fc.d]) rfl, R.bind_some, x_con]
          rfl
        have i1 : ∀ {st : Store}, evE (cfN tab K) (.ix (.var 6) (.con (.int 1))) env st = some (fb.d, st) := by
          intro st
          rw [he, x_ix, var_ok (d := .lst [fa.d, fb.d, fc.d]) rfl, R.bind_some, x_con]
          rfl
        have i2 : ∀ {st : Store}, evE (cfN tab K) (.ix (.var 6) (.con (.int 2))) env st = some (fc.d, st) := by
          intro st
          rw [he, x_ix, var_ok (d := .lst [fa.d, fb.d, fc.d]) rfl, R.bind_some, x_con]
          rfl
        have head : ∀ (f : Fm) (st6 : Store), evSs (cfN tab K) (ir_law_made.body.drop 6) env st5 = some (.rt f.d, st6) → evSs (cfN tab K) ir_law_made.body (mE L room (n + 1) none none none none none none none) st = some (.rt f.d, st6) := fun f st6 e => by
          show evSs (cfN tab K) (_ :: _ :: _ :: _ :: _ :: _ :: ir_law_made.body.drop 6) _ st = _
          rw [Ss_nx s1, Ss_nx s2, Ss_nx s3, Ss_nx s4, Ss_nx s5, Ss_nx s6, ← he]
          exact e
        have v4 : ∀ {st : Store}, evE (cfN tab K) (.var 4) env st = some (.int w, st) := by
          intro st
          rw [he]
          exact var_ok rfl
        have c7 : evE (cfN tab K) ((.and [(.cmp .Eq (.var 4) (.con (.int 5))), (.cmp .NotEq (.var 1) (.lst []))])) env st5 = some (.bl (decide (w = 5) && true), st5) := by
          refine ev_and2 (cmp_ok v4 x_con cmp_ii) (cmp_ok (x := nmD L) (y := .lst []) (by rw [he]; exact var_ok rfl) ev_lst0 nn)
        rw [Bool.and_true] at c7
        by_cases hD : w = 5
        · rw [decide_eq_true hD] at c7
          obtain ⟨s, st6, e6, hs, h6⟩ := one_nm (K := K) (by omega) h0 (by omega) h5
          refine fin (.put s fa fb) st6 (head _ st6 ?_) ⟨?_, ?_, ?_⟩ h6
          · show evSs (cfN tab K) (_ :: _) _ st5 = _
            rw [Ss_rt]
            rw [if_t c7]
            refine Ss_rt (ret_ok ?_)
            have e6' : evE (cfN tab K) (.call F_law_one [(.var 0), (.var 1)]) env st5 = some (.str s, st6) := by simp only [he, mE, x_var, x_con, x_glob, x_tup, x_lst, x_bin, x_neg, x_inv, x_cmp, x_not, x_ite, x_ix, x_sl, x_call, x_bi, x_Es0, x_Es1, x_O0, x_O1, x_C0, x_asg, x_par2, x_aug, x_if, x_ret, x_ex, x_never, x_Ss0, x_Ss1, R.bind_some, List.getElem?_cons_zero, List.getElem?_cons_succ, List.set_cons_zero, List.set_cons_succ, Option.map_some, List.map_cons, List.map_nil, List.replicate, List.cons_append, List.nil_append, List.append_nil, Nat.sub_self, asg_nm, asg_tup, asgs_nil, asgs_cons, List.length_cons, List.length_nil, rd'_int, rd'_str, rd'_tup, rd_lst', rd_bl, rd_non, rd_scr, t_bl, t_int, t_non, Nat.reduceAdd, Nat.reduceLT, reduceIte, and_self, e6]
            rw [x_tup, x_Es1, x_con, R.bind_some, x_Es1, e6', R.bind_some, x_Es1, i0, R.bind_some, x_Es1, i1, R.bind_some, x_Es0]
            rfl
          · show ((1 + (fa.size + fb.size) : Nat) : Int) ≤ _
            omega
          · show 1 + max fa.deep fb.deep ≤ _
            omega
          · intro t ht
            rcases List.mem_cons.mp ht with rfl | ht
            · exact hs
            · exact (List.mem_append.mp ht).elim (m3.2.2 t) (m4.2.2 t)
        · rw [decide_eq_false hD] at c7
          have s7 : evS (cfN tab K) (.if_ (.and [(.cmp .Eq (.var 4) (.con (.int 5))), (.cmp .NotEq (.var 1) (.lst []))]) [.ret (.tup [(.con (.str "put")), (.call F_law_one [(.var 0), (.var 1)]), (.ix (.var 6) (.con (.int 0))), (.ix (.var 6) (.con (.int 1)))])] []) env st5 = some (.nx env, st5) := by rw [if_f c7, x_Ss0]
          have c8 : evE (cfN tab K) ((.cmp .In (.var 4) (.tup [(.con (.int 6)), (.con (.int 7))]))) env st5 = some (.bl (decide (6 = w) || decide (7 = w)), st5) := cmp_ok v4 (y := .tup [.int 6, .int 7]) ev_tup2 in_ii
          by_cases hE : (decide (6 = w) || decide (7 = w)) = true
          · rw [hE] at c8
            refine fin (.ite fa fb fc) st5 (head _ st5 ?_) ⟨?_, ?_, ?_⟩ h5
            · show evSs (cfN tab K) (_ :: _ :: _) _ st5 = _
              rw [Ss_nx s7, Ss_rt]
              rw [if_t c8]
              refine Ss_rt (ret_ok ?_)
              rw [x_tup, x_Es1, x_con, R.bind_some, x_Es1, i0, R.bind_some, x_Es1, i1, R.bind_some, x_Es1, i2, R.bind_some, x_Es0]
              rfl
            · show ((1 + (fa.size + (fb.size + fc.size)) : Nat) : Int) ≤ _
              omega
            · show 1 + max fa.deep (max fb.deep fc.deep) ≤ _
              omega
            · intro t ht
              exact (List.mem_append.mp ht).elim (m3.2.2 t) fun ht => (List.mem_append.mp ht).elim (m4.2.2 t) (m5.2.2 t)
          · have hE' := Bool.eq_false_iff.mpr hE
            rw [hE'] at c8
            have s8 : evS (cfN tab K) (.if_ (.cmp .In (.var 4) (.tup [(.con (.int 6)), (.con (.int 7))])) [.ret (.tup [(.con (.str "if")), (.ix (.var 6) (.con (.int 0))), (.ix (.var 6) (.con (.int 1))), (.ix (.var 6) (.con (.int 2)))])] []) env st5 = some (.nx env, st5) := by rw [if_f c8, x_Ss0]
            obtain ⟨d, st6, e6, hd, h6⟩ := one_ge (K := K) (by omega) (things := [.str "and", .str "or", .str "xor"]) (by decide) (by decide) (fun d hd => by simp at hd; rcases hd with rfl | rfl | rfl <;> rfl) h5
            obtain ⟨q, rfl⟩ : ∃ q, d = .str (binW q) := by
              simp at hd
              rcases hd with rfl | rfl | rfl
              · exact ⟨0, rfl⟩
              · exact ⟨1, rfl⟩
              · exact ⟨2, rfl⟩
            refine fin (.bin q fa fb) st6 (head _ st6 ?_) ⟨?_, ?_, ?_⟩ h6
            · show evSs (cfN tab K) (_ :: _ :: _ :: _) _ st5 = _
              rw [Ss_nx s7, Ss_nx s8]
              refine Ss_rt (ret_ok ?_)
              have e6' : evE (cfN tab K) (.call F_law_one [(.var 0), (.lst [(.con (.str "and")), (.con (.str "or")), (.con (.str "xor"))])]) env st5 = some (.str (binW q), st6) := by simp only [he, mE, x_var, x_con, x_glob, x_tup, x_lst, x_bin, x_neg, x_inv, x_cmp, x_not, x_ite, x_ix, x_sl, x_call, x_bi, x_Es0, x_Es1, x_O0, x_O1, x_C0, x_asg, x_par2, x_aug, x_if, x_ret, x_ex, x_never, x_Ss0, x_Ss1, R.bind_some, List.getElem?_cons_zero, List.getElem?_cons_succ, List.set_cons_zero, List.set_cons_succ, Option.map_some, List.map_cons, List.map_nil, List.replicate, List.cons_append, List.nil_append, List.append_nil, Nat.sub_self, asg_nm, asg_tup, asgs_nil, asgs_cons, List.length_cons, List.length_nil, rd'_int, rd'_str, rd'_tup, rd_lst', rd_bl, rd_non, rd_scr, t_bl, t_int, t_non, Nat.reduceAdd, Nat.reduceLT, reduceIte, and_self, e6]
              rw [x_tup, x_Es1, e6', R.bind_some, x_Es1, i0, R.bind_some, x_Es1, i1, R.bind_some, x_Es0]
              rfl
            · show ((1 + (fa.size + fb.size) : Nat) : Int) ≤ _
              omega
            · show 1 + max fa.deep fb.deep ≤ _
              omega
            · intro t ht
              exact (List.mem_append.mp ht).elim (m3.2.2 t) (m4.2.2 t)
theorem made_ok {L : List Str} (hL : ∀ s ∈ L, Nm s) (h0 : 0 < L.length) (hl : L.length ≤ 100) : ∀ (n K : Nat), n + 6 ≤ K → ∀ (room : Int) (st : Store), 1 ≤ room → room ≤ 100 → Sx ns rest st → ∃ f st', cfN tab K F_law_made [.ref 1, nmD L, .int room, .int n] st = some (f.d, st') ∧ MF L f room n ∧ Sx ns rest st' := by
  intro n
  induction n with
  | zero => exact made_all hL h0 hl 0 (fun n' h => by omega)
  | succ n ih => exact made_all hL h0 hl (n + 1) (fun n' h => by
      obtain rfl : n' = n := by omega
      exact ih)
end
end Kw

set_option Elab.async false
set_option linter.all false
set_option maxRecDepth 100000
set_option maxHeartbeats 1000000
/-! Law k08: formulas made otherwise that are the same at each row. -/
namespace Kw
open PySem
def leafB (b : Bool) : Fm := if b then .yes else .no
theorem leafB_ev {b : Bool} {ρ : Str → Bool} : (leafB b).ev ρ = b := by cases b <;> rfl
def putIn (s : Str) (b : Bool) : Fm → Fm
  | .yes => .yes
  | .no => .no
  | .nm t => if t = s then leafB b else .nm t
  | .not a => .not (putIn s b a)
  | .bin w x y => .bin w (putIn s b x) (putIn s b y)
  | .ite x y z => .ite (putIn s b x) (putIn s b y) (putIn s b z)
  | .qu w t a => if t = s then .qu w t a else .qu w t (putIn s b a)
  | .put t x y => .put t (putIn s b x) (if t = s then y else putIn s b y)
theorem upT_same {ρ : Str → Bool} {s : Str} {b c : Bool} : upT (upT ρ s b) s c = upT ρ s c := by
  funext x
  unfold upT
  by_cases h : x = s <;> simp [h]
theorem upT_comm {ρ : Str → Bool} {s t : Str} {b c : Bool} (h : ¬ t = s) : upT (upT ρ s b) t c = upT (upT ρ t c) s b := by
  funext x
  unfold upT
  by_cases h1 : x = s
  · rw [if_neg (fun z => h (z.symm.trans h1)), if_pos h1, if_pos h1]
  · by_cases h2 : x = t
    · rw [if_pos h2, if_neg h1, if_pos h2]
    · rw [if_neg h2, if_neg h1, if_neg h1, if_neg h2]
theorem putIn_ev (s : Str) (b : Bool) : ∀ (f : Fm) (ρ : Str → Bool), (putIn s b f).ev ρ = f.ev (upT ρ s b)
  | .yes, ρ => rfl
  | .no, ρ => rfl
  | .nm t, ρ => by
    unfold putIn
    by_cases h : t = s
    · rw [if_pos h, leafB_ev]
      simp [Fm.ev, upT, h]
    · rw [if_neg h]
      simp [Fm.ev, upT, h]
  | .not a, ρ => by simp only [putIn, Fm.ev, putIn_ev s b a ρ]
  | .bin w x y, ρ => by
    have h1 := putIn_ev s b x ρ
    have h2 := putIn_ev s b y ρ
    match w with
    | 0 => simp only [putIn, Fm.ev, h1, h2]
    | 1 => simp only [putIn, Fm.ev, h1, h2]
    | 2 => simp only [putIn, Fm.ev, h1, h2]
  | .ite x y z, ρ => by simp only [putIn, Fm.ev, putIn_ev s b x ρ, putIn_ev s b y ρ, putIn_ev s b z ρ]
  | .qu w t a, ρ => by
    unfold putIn
    by_cases h : t = s
    · rw [if_pos h]
      subst h
      cases w <;> simp only [Fm.ev, upT_same]
    · rw [if_neg h]
      have h1 := putIn_ev s b a (upT ρ t true)
      have h2 := putIn_ev s b a (upT ρ t false)
      rw [← upT_comm h] at h1 h2
      cases w <;> simp only [Fm.ev, h1, h2]
  | .put t x y, ρ => by
    have h1 := putIn_ev s b x ρ
    by_cases h : t = s
    · simp only [putIn, if_pos h, Fm.ev, h1]
      subst h
      rw [upT_same]
    · simp only [putIn, if_neg h, Fm.ev, h1, putIn_ev s b y]
      rw [upT_comm h]
theorem putIn_deep (s : Str) (b : Bool) : ∀ f : Fm, (putIn s b f).deep ≤ f.deep
  | .yes => Nat.le_refl _
  | .no => Nat.le_refl _
  | .nm t => by
    unfold putIn leafB
    split
    · cases b <;> exact Nat.le_refl _
    · exact Nat.le_refl _
  | .not a => by
    have := putIn_deep s b a
    simp only [putIn, Fm.deep]
    omega
  | .bin w x y => by
    have := putIn_deep s b x
    have := putIn_deep s b y
    simp only [putIn, Fm.deep]
    omega
  | .ite x y z => by
    have := putIn_deep s b x
    have := putIn_deep s b y
    have := putIn_deep s b z
    simp only [putIn, Fm.deep]
    omega
  | .qu w t a => by
    have := putIn_deep s b a
    unfold putIn
    split
    · exact Nat.le_refl _
    · simp only [Fm.deep]
      omega
  | .put t x y => by
    have := putIn_deep s b x
    have := putIn_deep s b y
    simp only [putIn, Fm.deep]
    split <;> omega
def Fm.sub (g f : Fm) : Prop := ∀ x ∈ g.names, x ∈ f.names
theorem putIn_sub (s : Str) (b : Bool) : ∀ f : Fm, (putIn s b f).sub f
  | .yes => fun x hx => hx
  | .no => fun x hx => hx
  | .nm t => by
    intro x hx
    unfold putIn leafB at hx
    split at hx
    · cases b <;> cases hx
    · exact hx
  | .not a => fun x hx => putIn_sub s b a x hx
  | .bin w x y => fun z hz => by
    simp only [putIn, Fm.names, List.mem_append] at hz ⊢
    exact hz.imp (putIn_sub s b x z) (putIn_sub s b y z)
  | .ite x y z => fun u hu => by
    simp only [putIn, Fm.names, List.mem_append] at hu ⊢
    exact hu.imp (putIn_sub s b x u) (Or.imp (putIn_sub s b y u) (putIn_sub s b z u))
  | .qu w t a => fun u hu => by
    unfold putIn at hu
    split at hu
    · exact hu
    · simp only [Fm.names, List.mem_cons] at hu ⊢
      exact hu.imp id (putIn_sub s b a u)
  | .put t x y => fun u hu => by
    simp only [putIn, Fm.names, List.mem_cons, List.mem_append] at hu ⊢
    refine hu.imp id (Or.imp (putIn_sub s b x u) fun h => ?_)
    split at h
    · exact h
    · exact putIn_sub s b y u h
def contrary : Fm → Fm
  | .yes => .no
  | .no => .yes
  | .nm s => .not (.nm s)
  | .not a => a
  | .bin 0 a b => .bin 1 (.not a) (.not b)
  | .bin 1 a b => .bin 0 (.not a) (.not b)
  | .bin 2 a b => .bin 2 a (.not b)
  | .ite a b c => .ite a (.not b) (.not c)
  | .qu w s a => .qu (!w) s (.not a)
  | .put s a b => .put s a (.not b)
theorem contrary_ev : ∀ (f : Fm) (ρ : Str → Bool), (contrary f).ev ρ = !f.ev ρ
  | .yes, ρ => rfl
  | .no, ρ => rfl
  | .nm s, ρ => rfl
  | .not a, ρ => by simp only [contrary, Fm.ev, Bool.not_not]
  | .bin 0 a b, ρ => by simp only [contrary, Fm.ev]; cases a.ev ρ <;> cases b.ev ρ <;> rfl
  | .bin 1 a b, ρ => by simp only [contrary, Fm.ev]; cases a.ev ρ <;> cases b.ev ρ <;> rfl
  | .bin 2 a b, ρ => by simp only [contrary, Fm.ev]; cases a.ev ρ <;> cases b.ev ρ <;> rfl
  | .ite a b c, ρ => by simp only [contrary, Fm.ev]; cases a.ev ρ <;> rfl
  | .qu true s a, ρ => by simp only [contrary, Fm.ev, Bool.not_true]; cases a.ev (upT ρ s true) <;> cases a.ev (upT ρ s false) <;> rfl
  | .qu false s a, ρ => by simp only [contrary, Fm.ev, Bool.not_false]; cases a.ev (upT ρ s true) <;> cases a.ev (upT ρ s false) <;> rfl
  | .put s a b, ρ => rfl
/-- the same at each row, of the same names, not much deeper -/
structure Like (f g : Fm) : Prop where
  ev : ∀ ρ, g.ev ρ = f.ev ρ
  deep : g.deep ≤ f.deep + 2
  sub : g.sub f
theorem contrary_like (a : Fm) : Like (.not a) (contrary a) where
  ev := contrary_ev a
  deep := by
    cases a with
    | bin w a b =>
      match w with
      | 0 => simp only [contrary, Fm.deep]; omega
      | 1 => simp only [contrary, Fm.deep]; omega
      | 2 => simp only [contrary, Fm.deep]; omega
    | _ => simp only [contrary, Fm.deep]; omega
  sub := by
    cases a with
    | bin w a b =>
      match w with
      | 0 => exact fun x hx => hx
      | 1 => exact fun x hx => hx
      | 2 => exact fun x hx => hx
    | _ => exact fun x hx => hx
def assoc (w : Fin 3) (a : Fm) : Fm → List Fm
  | .bin v x y => if v = w then [.bin w (.bin w a x) y] else []
  | _ => []
def others : Fm → List Fm
  | .not a => [contrary a]
  | .bin 0 a b => [.bin 0 b a] ++ assoc 0 a b ++ [.not (.bin 1 (.not a) (.not b))] ++ [.ite a b .no]
  | .bin 1 a b => [.bin 1 b a] ++ assoc 1 a b ++ [.not (.bin 0 (.not a) (.not b))] ++ [.ite a .yes b]
  | .bin 2 a b => [.bin 2 b a] ++ assoc 2 a b ++ [.ite a (.not b) b, .bin 1 (.bin 0 a (.not b)) (.bin 0 (.not a) b)]
  | .ite a b c => [.bin 1 (.bin 0 a b) (.bin 0 (.not a) c), .ite (.not a) c b]
  | .qu true s a => [.bin 1 (putIn s true a) (putIn s false a)]
  | .qu false s a => [.bin 0 (putIn s true a) (putIn s false a)]
  | .put s a b => [.ite a (putIn s true b) (putIn s false b)]
  | f => [.not (.not f), .bin 0 f f, .bin 1 f .no]
theorem assoc_like {w : Fin 3} {a b g : Fm} (h : g ∈ assoc w a b) : Like (.bin w a b) g := by
  cases b with
  | bin v x y =>
    have h' : g ∈ if v = w then [Fm.bin w (.bin w a x) y] else [] := h
    by_cases e : v = w
    · rw [if_pos e] at h'
      subst e
      rw [List.mem_singleton.mp h']
      refine ⟨fun ρ => ?_, by simp only [Fm.deep]; omega, fun x hx => by simpa only [Fm.names, List.append_assoc] using hx⟩
      match v with
      | 0 => simp only [Fm.ev, Bool.and_assoc]
      | 1 => simp only [Fm.ev, Bool.or_assoc]
      | 2 => simp only [Fm.ev, Bool.xor_assoc]
    · rw [if_neg e] at h'
      cases h'
  | _ => cases h
theorem leaf_like {f : Fm} (h : f.deep = 0) {g : Fm} (hg : g ∈ [Fm.not (.not f), .bin 0 f f, .bin 1 f .no]) : Like f g := by
  simp only [List.mem_cons, List.not_mem_nil, or_false] at hg
  rcases hg with rfl | rfl | rfl
  · exact ⟨fun ρ => by simp only [Fm.ev, Bool.not_not], by simp only [Fm.deep]; omega, fun x hx => hx⟩
  · exact ⟨fun ρ => by simp only [Fm.ev, Bool.and_self], by simp only [Fm.deep]; omega, fun x hx => by simpa only [Fm.names, List.mem_append, or_self] using hx⟩
  · exact ⟨fun ρ => by simp only [Fm.ev, Bool.or_false], by simp only [Fm.deep]; omega, fun x hx => by simpa only [Fm.names, List.append_nil] using hx⟩
theorem others_like : ∀ (f : Fm) {g : Fm}, g ∈ others f → Like f g
  | .yes, g, h => leaf_like rfl h
  | .no, g, h => leaf_like rfl h
  | .nm s, g, h => leaf_like rfl h
  | .not a, g, h => by
    rw [List.mem_singleton.mp h]
    exact contrary_like a
  | .bin 0 a b, g, h => by
    simp only [others, List.mem_append, List.mem_singleton, List.mem_cons, List.not_mem_nil, or_false] at h
    rcases h with ((rfl | h) | rfl) | rfl
    · exact ⟨fun ρ => by simp only [Fm.ev, Bool.and_comm], by simp only [Fm.deep]; omega, fun x hx => by simpa only [Fm.names, List.mem_append, Or.comm] using hx⟩
    · exact assoc_like h
    · exact ⟨fun ρ => by simp only [Fm.ev]; cases a.ev ρ <;> cases b.ev ρ <;> rfl, by simp only [Fm.deep]; omega, fun x hx => hx⟩
    · exact ⟨fun ρ => by simp only [Fm.ev]; cases a.ev ρ <;> cases b.ev ρ <;> rfl, by simp only [Fm.deep]; omega, fun x hx => by simpa only [Fm.names, List.append_nil] using hx⟩
  | .bin 1 a b, g, h => by
    simp only [others, List.mem_append, List.mem_singleton, List.mem_cons, List.not_mem_nil, or_false] at h
    rcases h with ((rfl | h) | rfl) | rfl
    · exact ⟨fun ρ => by simp only [Fm.ev, Bool.or_comm], by simp only [Fm.deep]; omega, fun x hx => by simpa only [Fm.names, List.mem_append, Or.comm] using hx⟩
    · exact assoc_like h
    · exact ⟨fun ρ => by simp only [Fm.ev]; cases a.ev ρ <;> cases b.ev ρ <;> rfl, by simp only [Fm.deep]; omega, fun x hx => hx⟩
    · exact ⟨fun ρ => by simp only [Fm.ev]; cases a.ev ρ <;> cases b.ev ρ <;> rfl, by simp only [Fm.deep]; omega, fun x hx => by simpa only [Fm.names, List.nil_append] using hx⟩
  | .bin 2 a b, g, h => by
    simp only [others, List.mem_append, List.mem_singleton, List.mem_cons, List.not_mem_nil, or_false] at h
    rcases h with (rfl | h) | rfl | rfl
    · exact ⟨fun ρ => by simp only [Fm.ev, Bool.xor_comm], by simp only [Fm.deep]; omega, fun x hx => by simpa only [Fm.names, List.mem_append, Or.comm] using hx⟩
    · exact assoc_like h
    · exact ⟨fun ρ => by simp only [Fm.ev]; cases a.ev ρ <;> cases b.ev ρ <;> rfl, by simp only [Fm.deep]; omega, fun x hx => by
        simp only [Fm.names, List.mem_append] at hx ⊢
        exact hx.imp id fun h => h.elim id id⟩
    · exact ⟨fun ρ => by simp only [Fm.ev]; cases a.ev ρ <;> cases b.ev ρ <;> rfl, by simp only [Fm.deep]; omega, fun x hx => by
        simp only [Fm.names, List.mem_append] at hx ⊢
        exact hx.elim id id⟩
  | .ite a b c, g, h => by
    simp only [others, List.mem_cons, List.not_mem_nil, or_false] at h
    rcases h with rfl | rfl
    · exact ⟨fun ρ => by simp only [Fm.ev]; cases a.ev ρ <;> cases b.ev ρ <;> cases c.ev ρ <;> rfl, by simp only [Fm.deep]; omega, fun x hx => by
        simp only [Fm.names, List.mem_append] at hx ⊢
        rcases hx with (h | h) | (h | h)
        · exact .inl h
        · exact .inr (.inl h)
        · exact .inl h
        · exact .inr (.inr h)⟩
    · exact ⟨fun ρ => by rw [Fm.ev, Fm.ev, Fm.ev]; rcases Bool.eq_false_or_eq_true (a.ev ρ) with h | h <;> simp [h], by simp only [Fm.deep]; omega, fun x hx => by
        simp only [Fm.names, List.mem_append] at hx ⊢
        exact hx.imp id Or.symm⟩
  | .qu true s a, g, h => by
    rw [List.mem_singleton.mp h]
    refine ⟨fun ρ => by simp only [Fm.ev, putIn_ev], ?_, fun x hx => ?_⟩
    · have := putIn_deep s true a
      have := putIn_deep s false a
      simp only [Fm.deep]
      omega
    · simp only [Fm.names, List.mem_append, List.mem_cons] at hx ⊢
      exact .inr (hx.elim (putIn_sub s true a x) (putIn_sub s false a x))
  | .qu false s a, g, h => by
    rw [List.mem_singleton.mp h]
    refine ⟨fun ρ => by simp only [Fm.ev, putIn_ev], ?_, fun x hx => ?_⟩
    · have := putIn_deep s true a
      have := putIn_deep s false a
      simp only [Fm.deep]
      omega
    · simp only [Fm.names, List.mem_append, List.mem_cons] at hx ⊢
      exact .inr (hx.elim (putIn_sub s true a x) (putIn_sub s false a x))
  | .put s a b, g, h => by
    rw [List.mem_singleton.mp h]
    refine ⟨fun ρ => ?_, ?_, fun x hx => ?_⟩
    · simp only [Fm.ev, putIn_ev]
      cases a.ev ρ <;> rfl
    · have := putIn_deep s true b
      have := putIn_deep s false b
      simp only [Fm.deep]
      omega
    · simp only [Fm.names, List.mem_append, List.mem_cons] at hx ⊢
      exact .inr (hx.imp id fun h => h.elim (putIn_sub s true b x) (putIn_sub s false b x))
/-! ### a part exchanged -/
def Fm.setP : Fm → Nat → Fm → Fm
  | .not a, 0, g => .not g
  | .bin w a b, 0, g => .bin w g b
  | .bin w a b, 1, g => .bin w a g
  | .ite a b c, 0, g => .ite g b c
  | .ite a b c, 1, g => .ite a g c
  | .ite a b c, 2, g => .ite a b g
  | .qu w s a, 0, g => .qu w s g
  | .put s a b, 0, g => .put s g b
  | .put s a b, 1, g => .put s a g
  | f, _, _ => f
theorem setP_like : ∀ (f : Fm) (i : Nat) {p g : Fm}, f.parts[i]? = some p → Like p g → Like f (f.setP i g)
  | .not a, 0, p, g, e, h => by
    cases e
    exact ⟨fun ρ => by simp only [Fm.setP, Fm.ev, h.ev], by have := h.deep; simp only [Fm.setP, Fm.deep]; omega, h.sub⟩
  | .bin w a b, 0, p, g, e, h => by
    cases e
    refine ⟨fun ρ => ?_, by have := h.deep; simp only [Fm.setP, Fm.deep]; omega, fun x hx => by simp only [Fm.setP, Fm.names, List.mem_append] at hx ⊢; exact hx.imp (h.sub x) id⟩
    match w with
    | 0 => simp only [Fm.setP, Fm.ev, h.ev]
    | 1 => simp only [Fm.setP, Fm.ev, h.ev]
    | 2 => simp only [Fm.setP, Fm.ev, h.ev]
  | .bin w a b, 1, p, g, e, h => by
    cases e
    refine ⟨fun ρ => ?_, by have := h.deep; simp only [Fm.setP, Fm.deep]; omega, fun x hx => by simp only [Fm.setP, Fm.names, List.mem_append] at hx ⊢; exact hx.imp id (h.sub x)⟩
    match w with
    | 0 => simp only [Fm.setP, Fm.ev, h.ev]
    | 1 => simp only [Fm.setP, Fm.ev, h.ev]
    | 2 => simp only [Fm.setP, Fm.ev, h.ev]
  | .ite a b c, 0, p, g, e, h => by
    cases e
    exact ⟨fun ρ => by simp only [Fm.setP, Fm.ev, h.ev], by have := h.deep; simp only [Fm.setP, Fm.deep]; omega, fun x hx => by simp only [Fm.setP, Fm.names, List.mem_append] at hx ⊢; exact hx.imp (h.sub x) id⟩
  | .ite a b c, 1, p, g, e, h => by
    cases e
    exact ⟨fun ρ => by simp only [Fm.setP, Fm.ev, h.ev], by have := h.deep; simp only [Fm.setP, Fm.deep]; omega, fun x hx => by simp only [Fm.setP, Fm.names, List.mem_append] at hx ⊢; exact hx.imp id (Or.imp (h.sub x) id)⟩
  | .ite a b c, 2, p, g, e, h => by
    cases e
    exact ⟨fun ρ => by simp only [Fm.setP, Fm.ev, h.ev], by have := h.deep; simp only [Fm.setP, Fm.deep]; omega, fun x hx => by simp only [Fm.setP, Fm.names, List.mem_append] at hx ⊢; exact hx.imp id (Or.imp id (h.sub x))⟩
  | .qu w s a, 0, p, g, e, h => by
    cases e
    refine ⟨fun ρ => ?_, by have := h.deep; simp only [Fm.setP, Fm.deep]; omega, fun x hx => by simp only [Fm.setP, Fm.names, List.mem_cons] at hx ⊢; exact hx.imp id (h.sub x)⟩
    cases w <;> simp only [Fm.setP, Fm.ev, h.ev]
  | .put s a b, 0, p, g, e, h => by
    cases e
    exact ⟨fun ρ => by simp only [Fm.setP, Fm.ev, h.ev], by have := h.deep; simp only [Fm.setP, Fm.deep]; omega, fun x hx => by simp only [Fm.setP, Fm.names, List.mem_cons, List.mem_append] at hx ⊢; exact hx.imp id (Or.imp (h.sub x) id)⟩
  | .put s a b, 1, p, g, e, h => by
    cases e
    exact ⟨fun ρ => by simp only [Fm.setP, Fm.ev, h.ev], by have := h.deep; simp only [Fm.setP, Fm.deep]; omega, fun x hx => by simp only [Fm.setP, Fm.names, List.mem_cons, List.mem_append] at hx ⊢; exact hx.imp id (Or.imp id (h.sub x))⟩
  | .yes, _, _, _, e, _ => by cases e
  | .no, _, _, _, e, _ => by cases e
  | .nm _, _, _, _, e, _ => by cases e
  | .not _, _ + 1, _, _, e, _ => by cases e
  | .qu _ _ _, _ + 1, _, _, e, _ => by cases e
  | .bin _ _ _, _ + 2, _, _, e, _ => by cases e
  | .put _ _ _, _ + 2, _, _, e, _ => by cases e
  | .ite _ _ _, _ + 3, _, _, e, _ => by cases e
/-! ### names called otherwise -/
def Fm.ren (σ : Str → Str) : Fm → Fm
  | .yes => .yes
  | .no => .no
  | .nm s => .nm (σ s)
  | .not a => .not (a.ren σ)
  | .bin w a b => .bin w (a.ren σ) (b.ren σ)
  | .ite a b c => .ite (a.ren σ) (b.ren σ) (c.ren σ)
  | .qu w s a => .qu w (σ s) (a.ren σ)
  | .put s a b => .put (σ s) (a.ren σ) (b.ren σ)
theorem ren_deep (σ : Str → Str) : ∀ f : Fm, (f.ren σ).deep = f.deep
  | .yes => rfl
  | .no => rfl
  | .nm _ => rfl
  | .not a => by simp only [Fm.ren, Fm.deep, ren_deep σ a]
  | .bin _ a b => by simp only [Fm.ren, Fm.deep, ren_deep σ a, ren_deep σ b]
  | .ite a b c => by simp only [Fm.ren, Fm.deep, ren_deep σ a, ren_deep σ b, ren_deep σ c]
  | .qu _ _ a => by simp only [Fm.ren, Fm.deep, ren_deep σ a]
  | .put _ a b => by simp only [Fm.ren, Fm.deep, ren_deep σ a, ren_deep σ b]
theorem ren_size (σ : Str → Str) : ∀ f : Fm, (f.ren σ).size = f.size
  | .yes => rfl
  | .no => rfl
  | .nm _ => rfl
  | .not a => by simp only [Fm.ren, Fm.size, ren_size σ a]
  | .bin _ a b => by simp only [Fm.ren, Fm.size, ren_size σ a, ren_size σ b]
  | .ite a b c => by simp only [Fm.ren, Fm.size, ren_size σ a, ren_size σ b, ren_size σ c]
  | .qu _ _ a => by simp only [Fm.ren, Fm.size, ren_size σ a]
  | .put _ a b => by simp only [Fm.ren, Fm.size, ren_size σ a, ren_size σ b]
theorem ren_names (σ : Str → Str) : ∀ f : Fm, (f.ren σ).names = f.names.map σ
  | .yes => rfl
  | .no => rfl
  | .nm _ => rfl
  | .not a => ren_names σ a
  | .bin _ a b => by simp only [Fm.ren, Fm.names, ren_names σ a, ren_names σ b, List.map_append]
  | .ite a b c => by simp only [Fm.ren, Fm.names, ren_names σ a, ren_names σ b, ren_names σ c, List.map_append]
  | .qu _ _ a => by simp only [Fm.ren, Fm.names, ren_names σ a, List.map_cons]
  | .put _ a b => by simp only [Fm.ren, Fm.names, ren_names σ a, ren_names σ b, List.map_append, List.map_cons]
theorem ren_ev {σ : Str → Str} {L : List Str} (inj : ∀ x ∈ L, ∀ y ∈ L, σ x = σ y → x = y) : ∀ (f : Fm) (ρ ρ' : Str → Bool), (∀ x ∈ f.names, x ∈ L) → (∀ x ∈ L, ρ' (σ x) = ρ x) → (f.ren σ).ev ρ' = f.ev ρ := by
  have up : ∀ {ρ ρ' : Str → Bool} {s : Str} {b : Bool}, s ∈ L → (∀ x ∈ L, ρ' (σ x) = ρ x) → ∀ x ∈ L, upT ρ' (σ s) b (σ x) = upT ρ s b x := by
    intro ρ ρ' s b hs h x hx
    unfold upT
    by_cases e : x = s
    · rw [if_pos e, if_pos (by rw [e])]
    · rw [if_neg e, if_neg (fun z => e (inj x hx s hs z)), h x hx]
  intro f
  induction f with
  | yes => intros; rfl
  | no => intros; rfl
  | nm s => intro ρ ρ' hs h; exact h s (hs s (by simp [Fm.names]))
  | not a ih => intro ρ ρ' hs h; simp only [Fm.ren, Fm.ev, ih ρ ρ' hs h]
  | bin w a b iha ihb =>
    intro ρ ρ' hs h
    have ha := iha ρ ρ' (fun x hx => hs x (by simp [Fm.names, hx])) h
    have hb := ihb ρ ρ' (fun x hx => hs x (by simp [Fm.names, hx])) h
    match w with
    | 0 => simp only [Fm.ren, Fm.ev, ha, hb]
    | 1 => simp only [Fm.ren, Fm.ev, ha, hb]
    | 2 => simp only [Fm.ren, Fm.ev, ha, hb]
  | ite a b c iha ihb ihc =>
    intro ρ ρ' hs h
    have ha := iha ρ ρ' (fun x hx => hs x (by simp [Fm.names, hx])) h
    have hb := ihb ρ ρ' (fun x hx => hs x (by simp [Fm.names, hx])) h
    have hc := ihc ρ ρ' (fun x hx => hs x (by simp [Fm.names, hx])) h
    simp only [Fm.ren, Fm.ev, ha, hb, hc]
  | qu w s a ih =>
    intro ρ ρ' hs h
    have ms : s ∈ L := hs s (by simp [Fm.names])
    have h1 := ih (upT ρ s true) (upT ρ' (σ s) true) (fun x hx => hs x (by simp [Fm.names, hx])) (up ms h)
    have h2 := ih (upT ρ s false) (upT ρ' (σ s) false) (fun x hx => hs x (by simp [Fm.names, hx])) (up ms h)
    cases w <;> simp only [Fm.ren, Fm.ev, h1, h2]
  | put s a b iha ihb =>
    intro ρ ρ' hs h
    have ms : s ∈ L := hs s (by simp [Fm.names])
    have ha := iha ρ ρ' (fun x hx => hs x (by simp [Fm.names, hx])) h
    simp only [Fm.ren, Fm.ev, ha]
    exact ihb _ _ (fun x hx => hs x (by simp [Fm.names, hx])) (up ms h)
end Kw

set_option Elab.async false
set_option linter.all false
set_option maxRecDepth 100000
set_option maxHeartbeats 1000000
/-! Law k08: the rules, as they run. -/
namespace Kw
open PySem
section
variable {K : Nat} {st : Store}
def isNm (s : Str) : Fm → Bool
  | .nm t => decide (t = s)
  | _ => false
theorem cmp_isNm {f : Fm} {s : Str} (hf : ∀ x ∈ f.names, Nm x) (hs : Nm s) (hd : f.deep ≤ 50) : cmpD .Eq st f.d (Fm.nm s).d = some (isNm s f) := by
  have p1 := pl_fm f hf
  have p2 := pl_fm (Fm.nm s) (fun x hx => by rw [List.mem_singleton.mp hx]; exact hs)
  have q : ∀ g : Fm, rd st g.d = g.d := fun g => by cases g <;> rfl
  rw [cmpEq (by rw [q]; exact p1.eqOk (by omega)) (by rw [q]; exact p2.eqOk (by simp [Fm.deep])), q, q]
  congr 1
  rw [Bool.eq_iff_iff, Pl.eqv p1 p2]
  cases f with
  | nm t => simp [isNm, Fm.d]
  | not a =>
    simp only [isNm, Fm.d]
    constructor
    · intro h
      injection h with h
      injection h with h1 h2
      injection h1 with h1
      exact absurd h1 (by decide +kernel)
    · intro h
      cases h
  | _ => simp [isNm, Fm.d]
theorem sl_take {xs : List D} {n : Nat} (h : n ≤ xs.length) : slD (.tup xs) none (some (n : Int)) = some (.tup (xs.take n)) := by
  show some (D.tup (cutL xs none (some (n : Int)))) = _
  rw [cutT xs h]
theorem sl_drop {xs : List D} {n : Nat} (h : n ≤ xs.length) : slD (.tup xs) (some (n : Int)) none = some (.tup (xs.drop n)) := by
  show some (D.tup (cutL xs (some (n : Int)) none)) = _
  unfold cutL
  rw [show HT.sIx xs.length 0 (some (n : Int)) = min n xs.length from HT.sIx_nat xs.length 0 n, HT.sIx_none, Nat.min_eq_left h, List.take_of_length_le]
  rw [List.length_drop]
  omega
theorem d_addT {a b : List D} (h : a.length + b.length ≤ 100000) : binD .Add (.tup a) (.tup b) = some (.tup (a ++ b)) := if_pos (lim10 h)
def pE (f : Fm) (s : Str) (b : Bool) : Env := [some f.d, some (.str s), some (leafB b).d, none, none, none]
/-- behind the looks at the name -/
theorem put_start {f : Fm} {s : Str} {b : Bool} {r : R Fl} (hf : ∀ x ∈ f.names, Nm x) (hs : Nm s) (hd : f.deep ≤ 50) (hn : isNm s f = false)
    (h : evSs (cfN tab K) (ir_law_put_in.body.drop 1) (pE f s b) st = r) : evSs (cfN tab K) ir_law_put_in.body (pE f s b) st = r := by
  have c := cmp_isNm (st := st) hf hs hd
  rw [hn] at c
  show evSs (cfN tab K) (_ :: ir_law_put_in.body.drop 1) _ _ = _
  rw [Ss_nx (env1 := pE f s b) (st1 := st) (by
    refine (if_f (cmp_ok (var_ok rfl) (y := (Fm.nm s).d) ?_ c)).trans x_Ss0
    simp only [pE, x_var, x_con, x_glob, x_tup, x_lst, x_bin, x_neg, x_inv, x_cmp, x_not, x_ite, x_ix, x_sl, x_call, x_bi, x_Es0, x_Es1, x_O0, x_O1, x_C0, x_asg, x_par2, x_aug, x_if, x_ret, x_ex, x_never, x_Ss0, x_Ss1, R.bind_some, List.getElem?_cons_zero, List.getElem?_cons_succ, List.set_cons_zero, List.set_cons_succ, Option.map_some, List.map_cons, List.map_nil, List.replicate, List.cons_append, List.nil_append, List.append_nil, Nat.sub_self, asg_nm, asg_tup, asgs_nil, asgs_cons, List.length_cons, List.length_nil, rd'_int, rd'_str, rd'_tup, rd_lst', rd_bl, rd_non, rd_scr, t_bl, t_int, t_non, Nat.reduceAdd, Nat.reduceLT, reduceIte, and_self]
    rfl)]
  exact h
def isQu : Fm → Bool
  | .qu _ _ _ => true
  | _ => false
def isPut : Fm → Bool
  | .put _ _ _ => true
  | _ => false
theorem c_qu {cf : CF} {f : Fm} {s : Str} {b : Bool} : evE cf (.cmp .In (.ix (.var 0) (.con (.int 0))) (.tup [(.con (.str "some")), (.con (.str "all"))])) (pE f s b) st = some (.bl (isQu f), st) := by
  cases f with
  | bin w a b =>
    match w with
    | 0 => kernel_rfl
    | 1 => kernel_rfl
    | 2 => kernel_rfl
  | qu w s a => cases w <;> kernel_rfl
  | _ => kernel_rfl
theorem c_put {cf : CF} {f : Fm} {s : Str} {b : Bool} : evE cf (.cmp .Eq (.ix (.var 0) (.con (.int 0))) (.con (.str "put"))) (pE f s b) st = some (.bl (isPut f), st) := by
  cases f with
  | bin w a b =>
    match w with
    | 0 => kernel_rfl
    | 1 => kernel_rfl
    | 2 => kernel_rfl
  | qu w s a => cases w <;> kernel_rfl
  | _ => kernel_rfl
theorem and_f {cf : CF} {e e2 : E} {env : Env} (h : evE cf e env st = some (.bl false, st)) : evE cf (.and [e, e2]) env st = some (.bl false, st) := by
  rw [x_and, evAnd, h, R.bind_some]
theorem and_t {cf : CF} {e e2 : E} {env : Env} {p : Bool} (h : evE cf e env st = some (.bl true, st)) (h2 : evE cf e2 env st = some (.bl p, st)) : evE cf (.and [e, e2]) env st = some (.bl p, st) := by
  rw [x_and, evAnd, h, R.bind_some]
  exact (x_and1).trans h2
def Fm.tl : Fm → List D
  | .qu _ s _ => [.str s]
  | .put s _ _ => [.str s]
  | .nm s => [.str s]
  | _ => []
theorem d_word (f : Fm) : f.d = .tup (.str f.word :: (f.tl ++ f.parts.map Fm.d)) := by
  cases f with
  | bin w a b =>
    match w with
    | 0 => rfl
    | 1 => rfl
    | 2 => rfl
  | qu w s a => cases w <;> rfl
  | _ => rfl
theorem putIn_word {s : Str} {b : Bool} {f : Fm} (hn : isNm s f = false) : (putIn s b f).word = f.word := by
  cases f with
  | nm t =>
    unfold putIn
    rw [if_neg (of_decide_eq_false hn)]
  | bin w a b =>
    match w with
    | 0 => rfl
    | 1 => rfl
    | 2 => rfl
  | qu w t a =>
    unfold putIn
    split <;> rfl
  | _ => rfl
theorem putIn_parts {s : Str} {b : Bool} {f : Fm} (hq : isQu f = false) (hp : isPut f = false) (hn : isNm s f = false) : (putIn s b f).parts = f.parts.map (putIn s b) ∧ (putIn s b f).tl = f.tl ∧ (f.parts ≠ [] → f.tl = []) := by
  cases f with
  | nm t =>
    unfold putIn
    rw [if_neg (of_decide_eq_false hn)]
    exact ⟨rfl, rfl, fun h => absurd rfl h⟩
  | qu w t a => cases hq
  | put t x y => cases hp
  | _ => exact ⟨rfl, rfl, fun _ => rfl⟩
theorem put_fin {f : Fm} {s : Str} {b : Bool} (hf : ∀ x ∈ f.names, Nm x) (hd : f.deep ≤ 50) (hq : isQu f = false) (hp : isPut f = false) (hn : isNm s f = false)
    (h : evE (cfN tab K) ((.lc false (.call F_law_put_in [(.var 5), (.var 1), (.var 2)]) (.nm 5) (.seq (.call F_law_own [(.var 0)])) none [5])) (pE f s b) st = some (.lst ((f.parts.map (putIn s b)).map Fm.d), st)) : evSs (cfN tab K) (ir_law_put_in.body.drop 1) (pE f s b) st = some (.rt (putIn s b f).d, st) := by
  have c1 := c_qu (cf := cfN tab K) (st := st) (f := f) (s := s) (b := b)
  have c2 := c_put (cf := cfN tab K) (st := st) (f := f) (s := s) (b := b)
  rw [hq] at c1
  rw [hp] at c2
  obtain ⟨q1, q2, q3⟩ := putIn_parts (b := b) hq hp hn
  have q0 := putIn_word (b := b) hn
  show evSs (cfN tab K) [_, _, _, _, _] _ _ = _
  rw [Ss_nx ((if_f (and_f c1)).trans x_Ss0), Ss_nx ((if_f c2).trans x_Ss0), Ss_nx ((if_f c1).trans x_Ss0), Ss_nx (asg_ok h (env1 := [some f.d, some (.str s), some (leafB b).d, some (.lst ((f.parts.map (putIn s b)).map Fm.d)), none, none]) rfl)]
  refine Ss_rt (ret_ok ?_)
  have hP : Pls 52 ((f.parts.map (putIn s b)).map Fm.d) := .of fun d hd' => by
    obtain ⟨g, hg, rfl⟩ := List.mem_map.mp hd'
    obtain ⟨p, hp', rfl⟩ := List.mem_map.mp hg
    have e1 := part_deep hp'
    have e2 := putIn_deep s b p
    exact (pl_fm (putIn s b p) fun x hx => hf x (part_names hp' (putIn_sub s b p x hx))).up (by omega)
  have c3 : evE (cfN tab K) (.cmp .Eq (.var 3) (.lst [])) [some f.d, some (.str s), some (leafB b).d, some (.lst ((f.parts.map (putIn s b)).map Fm.d)), none, none] st = some (.bl f.parts.isEmpty, st) := by
    rw [cmp_ok (var_ok rfl) (y := .lst []) (st2 := st) ev_lst0 (cmp_nil hP (by omega))]
    cases f.parts <;> rfl
  rw [x_ite, c3, R.bind_some, t_bl]
  cases he : f.parts with
  | nil =>
    show evE (cfN tab K) (.var 0) _ st = _
    rw [var_ok (d := f.d) rfl, d_word f, d_word (putIn s b f), q0, q1, q2, he]
    rfl
  | cons p ps =>
    show evE (cfN tab K) (.bin .Add _ _) _ st = _
    have e1 : evE (cfN tab K) (.sl (.var 0) none (some (.con (.int 1)))) [some f.d, some (.str s), some (leafB b).d, some (.lst (((p :: ps).map (putIn s b)).map Fm.d)), none, none] st = some (.tup [.str f.word], st) := by
      rw [d_word f]
      kernel_rfl
    refine bin_ok e1 (y := .tup (((p :: ps).map (putIn s b)).map Fm.d)) (by
      simp only [x_var, x_con, x_glob, x_tup, x_lst, x_bin, x_neg, x_inv, x_cmp, x_not, x_ite, x_ix, x_sl, x_call, x_bi, x_Es0, x_Es1, x_O0, x_O1, x_C0, x_asg, x_par2, x_aug, x_if, x_ret, x_ex, x_never, x_Ss0, x_Ss1, R.bind_some, List.getElem?_cons_zero, List.getElem?_cons_succ, List.set_cons_zero, List.set_cons_succ, Option.map_some, List.map_cons, List.map_nil, List.replicate, List.cons_append, List.nil_append, List.append_nil, Nat.sub_self, asg_nm, asg_tup, asgs_nil, asgs_cons, List.length_cons, List.length_nil, rd'_int, rd'_str, rd'_tup, rd_lst', rd_bl, rd_non, rd_scr, t_bl, t_int, t_non, Nat.reduceAdd, Nat.reduceLT, reduceIte, and_self]
      rfl) ?_
    rw [rd'_tup, rd'_tup, d_addT (by
      have := parts3 f
      rw [he] at this
      rw [List.length_map, List.length_map, List.length_singleton]
      omega), d_word (putIn s b f), q0, q1, q2, q3 (by rw [he]; exact fun h => by cases h), he]
    rfl
theorem put_in_ok {s : Str} (hs : Nm s) (b : Bool) : ∀ (f : Fm), (∀ x ∈ f.names, Nm x) → f.deep ≤ 50 → ∀ K, f.deep + 2 ≤ K → ∀ st, cfN tab K F_law_put_in [f.d, .str s, (leafB b).d] st = some ((putIn s b f).d, st) := by
  have parts : ∀ (f : Fm) (gs : List Fm) (K : Nat) (st : Store), (∀ p ∈ f.parts, cfN tab (K + 1) F_law_put_in [p.d, .str s, (leafB b).d] st = some ((putIn s b p).d, st)) →
      evE (cfN tab (K + 1)) (.lc false (.call F_law_put_in [(.var 5), (.var 1), (.var 2)]) (.nm 5) (.seq (.call F_law_own [(.var 0)])) none [5]) (pE f s b) st = some (.lst ((f.parts.map (putIn s b)).map Fm.d), st) := by
    intro f gs K st hp
    have hi : evI (cfN tab (K + 1)) (.seq (.call F_law_own [(.var 0)])) (pE f s b) st = some (f.parts.map Fm.d, st) := by
      rw [x_seq, call_ok (ds := [f.d]) (by rw [x_Es1, var_ok (d := f.d) rfl, R.bind_some, x_Es0]; rfl) (lown_ok f)]
      rfl
    have e : evLc (lcF (evC (cfN tab (K + 1)) none) (evE (cfN tab (K + 1)) (.call F_law_put_in [(.var 5), (.var 1), (.var 2)])) (.nm 5) [5] (pE f s b)) (f.parts.map Fm.d) st = some ((f.parts.map (putIn s b)).map Fm.d, st) := by
      have go : ∀ ps : List Fm, (∀ p ∈ ps, cfN tab (K + 1) F_law_put_in [p.d, .str s, (leafB b).d] st = some ((putIn s b p).d, st)) → evLc (lcF (evC (cfN tab (K + 1)) none) (evE (cfN tab (K + 1)) (.call F_law_put_in [(.var 5), (.var 1), (.var 2)])) (.nm 5) [5] (pE f s b)) (ps.map Fm.d) st = some ((ps.map (putIn s b)).map Fm.d, st) := by
        intro ps
        induction ps with
        | nil => intro _; rfl
        | cons p ps ih =>
          intro h
          rw [List.map_cons, evLc, lcF_no (env1 := [some f.d, some (.str s), some (leafB b).d, none, none, some p.d]) rfl, x_C0, R.bind_some, if_pos rfl, call_ok (ds := [p.d, .str s, (leafB b).d]) (by simp only [x_var, x_con, x_glob, x_tup, x_lst, x_bin, x_neg, x_inv, x_cmp, x_not, x_ite, x_ix, x_sl, x_call, x_bi, x_Es0, x_Es1, x_O0, x_O1, x_C0, x_asg, x_par2, x_aug, x_if, x_ret, x_ex, x_never, x_Ss0, x_Ss1, R.bind_some, List.getElem?_cons_zero, List.getElem?_cons_succ, List.set_cons_zero, List.set_cons_succ, Option.map_some, List.map_cons, List.map_nil, List.replicate, List.cons_append, List.nil_append, List.append_nil, Nat.sub_self, asg_nm, asg_tup, asgs_nil, asgs_cons, List.length_cons, List.length_nil, rd'_int, rd'_str, rd'_tup, rd_lst', rd_bl, rd_non, rd_scr, t_bl, t_int, t_non, Nat.reduceAdd, Nat.reduceLT, reduceIte, and_self]) (h p List.mem_cons_self), R.bind_some, R.bind_some, ih fun q hq => h q (List.mem_cons_of_mem _ hq)]
          rfl
      exact go f.parts hp
    rw [x_lc, hi, R.bind_some, e, R.bind_some]
    exact if_pos (lim10 (by rw [List.length_map, List.length_map]; have := parts3 f; omega))
  intro f
  induction f with
  | qu w t a ih =>
    intro hf hd K hK st
    obtain ⟨K, rfl⟩ : ∃ j, K = j + 2 := ⟨K - 2, by omega⟩
    have ht : Nm t := hf t (by simp [Fm.names])
    refine run_rt rfl rfl (put_start hf hs hd rfl ?_)
    have c1 := c_qu (cf := cfN tab (K + 1)) (st := st) (f := .qu w t a) (s := s) (b := b)
    have c2 := c_put (cf := cfN tab (K + 1)) (st := st) (f := .qu w t a) (s := s) (b := b)
    have c4 : evE (cfN tab (K + 1)) (.cmp .Eq (.ix (.var 0) (.con (.int 1))) (.var 1)) (pE (.qu w t a) s b) st = some (.bl (decide (t = s)), st) := by
      refine cmp_ok (x := .str t) (y := .str s) ?_ (var_ok rfl) (cmp_ss ht.ok hs.ok)
      cases w <;> kernel_rfl
    show evSs (cfN tab (K + 1)) [_, _, _, _, _] _ _ = _
    by_cases e : t = s
    · rw [decide_eq_true e] at c4
      rw [Ss_rt ((if_t (and_t c1 c4)).trans (Ss_rt (ret_ok (var_ok (d := (Fm.qu w t a).d) rfl))))]
      unfold putIn
      rw [if_pos e]
    · rw [decide_eq_false e] at c4
      rw [Ss_nx ((if_f (and_t c1 c4)).trans x_Ss0), Ss_nx ((if_f c2).trans x_Ss0)]
      refine Ss_rt ((if_t c1).trans (Ss_rt (ret_ok ?_)))
      have i := ih (fun x hx => hf x (by simp [Fm.names, hx])) (by simp only [Fm.deep] at hd; omega) (K + 1) (by simp only [Fm.deep] at hK; omega) st
      have e1 : evE (cfN tab (K + 1)) (.sl (.var 0) none (some (.con (.int 2)))) (pE (.qu w t a) s b) st = some (.tup [.str (quW w), .str t], st) := by
        cases w <;> kernel_rfl
      have e2 : evE (cfN tab (K + 1)) (.ix (.var 0) (.con (.int 2))) (pE (.qu w t a) s b) st = some (a.d, st) := by
        cases w <;> kernel_rfl
      have e3 : evE (cfN tab (K + 1)) (.tup [(.call F_law_put_in [(.ix (.var 0) (.con (.int 2))), (.var 1), (.var 2)])]) (pE (.qu w t a) s b) st = some (.tup [(putIn s b a).d], st) := by
        rw [x_tup, x_Es1, call_ok (ds := [a.d, .str s, (leafB b).d]) (by rw [x_Es1, e2, R.bind_some, x_Es1, var_ok (d := .str s) rfl, R.bind_some, x_Es1, var_ok (d := (leafB b).d) rfl, R.bind_some, x_Es0]; rfl) i, R.bind_some, x_Es0]
        rfl
      refine bin_ok e1 e3 ?_
      rw [rd'_tup, rd'_tup, d_addT (by simp)]
      rw [show putIn s b (.qu w t a) = .qu w t (putIn s b a) from by rw [putIn, if_neg e]]
      rfl
  | put t x y ihx ihy =>
    intro hf hd K hK st
    obtain ⟨K, rfl⟩ : ∃ j, K = j + 2 := ⟨K - 2, by omega⟩
    have ht : Nm t := hf t (by simp [Fm.names])
    refine run_rt rfl rfl (put_start hf hs hd rfl ?_)
    have c1 := c_qu (cf := cfN tab (K + 1)) (st := st) (f := .put t x y) (s := s) (b := b)
    have c2 := c_put (cf := cfN tab (K + 1)) (st := st) (f := .put t x y) (s := s) (b := b)
    have c4 : evE (cfN tab (K + 1)) (.cmp .Eq (.ix (.var 0) (.con (.int 1))) (.var 1)) (pE (.put t x y) s b) st = some (.bl (decide (t = s)), st) := by
      refine cmp_ok (x := .str t) (y := .str s) ?_ (var_ok rfl) (cmp_ss ht.ok hs.ok)
      kernel_rfl
    simp only [Fm.deep] at hd hK
    have ix := ihx (fun x hx => hf x (by simp [Fm.names, hx])) (by omega) (K + 1) (by omega) st
    have iy := ihy (fun x hx => hf x (by simp [Fm.names, hx])) (by omega) (K + 1) (by omega) st
    show evSs (cfN tab (K + 1)) [_, _, _, _, _] _ _ = _
    rw [Ss_nx ((if_f (and_f c1)).trans x_Ss0)]
    refine Ss_rt ((if_t c2).trans ?_)
    have e3 : evE (cfN tab (K + 1)) (.ix (.var 0) (.con (.int 3))) (pE (.put t x y) s b) st = some (y.d, st) := by kernel_rfl
    have e4 : evE (cfN tab (K + 1)) (.ite (.cmp .Eq (.ix (.var 0) (.con (.int 1))) (.var 1)) (.ix (.var 0) (.con (.int 3))) (.call F_law_put_in [(.ix (.var 0) (.con (.int 3))), (.var 1), (.var 2)])) (pE (.put t x y) s b) st = some ((if t = s then y else putIn s b y).d, st) := by
      rw [x_ite, c4, R.bind_some, t_bl]
      by_cases e : t = s
      · rw [decide_eq_true e, if_pos e]
        exact e3
      · rw [decide_eq_false e, if_neg e]
        exact call_ok (ds := [y.d, .str s, (leafB b).d]) (by rw [x_Es1, e3, R.bind_some, x_Es1, var_ok (d := .str s) rfl, R.bind_some, x_Es1, var_ok (d := (leafB b).d) rfl, R.bind_some, x_Es0]; rfl) iy
    rw [Ss_nx (asg_ok e4 (env1 := [some (Fm.put t x y).d, some (.str s), some (leafB b).d, none, some (if t = s then y else putIn s b y).d, none]) rfl)]
    refine Ss_rt (ret_ok ?_)
    have e1 : evE (cfN tab (K + 1)) (.sl (.var 0) none (some (.con (.int 2)))) [some (Fm.put t x y).d, some (.str s), some (leafB b).d, none, some (if t = s then y else putIn s b y).d, none] st = some (.tup [.str "put", .str t], st) := by
      kernel_rfl
    have e2 : evE (cfN tab (K + 1)) (.ix (.var 0) (.con (.int 2))) [some (Fm.put t x y).d, some (.str s), some (leafB b).d, none, some (if t = s then y else putIn s b y).d, none] st = some (x.d, st) := by
      kernel_rfl
    have e5 : evE (cfN tab (K + 1)) (.tup [(.call F_law_put_in [(.ix (.var 0) (.con (.int 2))), (.var 1), (.var 2)]), (.var 4)]) [some (Fm.put t x y).d, some (.str s), some (leafB b).d, none, some (if t = s then y else putIn s b y).d, none] st = some (.tup [(putIn s b x).d, (if t = s then y else putIn s b y).d], st) := by
      rw [x_tup, x_Es1, call_ok (ds := [x.d, .str s, (leafB b).d]) (by rw [x_Es1, e2, R.bind_some, x_Es1, var_ok (d := .str s) rfl, R.bind_some, x_Es1, var_ok (d := (leafB b).d) rfl, R.bind_some, x_Es0]; rfl) ix, R.bind_some, x_Es1, var_ok (d := (if t = s then y else putIn s b y).d) rfl, R.bind_some, x_Es0]
      rfl
    refine bin_ok e1 e5 ?_
    rw [rd'_tup, rd'_tup, d_addT (by simp)]
    rfl
  | nm t =>
    intro hf hd K hK st
    obtain ⟨K, rfl⟩ : ∃ j, K = j + 2 := ⟨K - 2, by omega⟩
    by_cases e : t = s
    · refine run_rt rfl rfl ?_
      have c := cmp_isNm (st := st) hf hs hd
      rw [show isNm s (.nm t) = true from decide_eq_true e] at c
      show evSs (cfN tab (K + 1)) (_ :: ir_law_put_in.body.drop 1) (pE (.nm t) s b) _ = _
      rw [Ss_rt ((if_t (cmp_ok (var_ok rfl) (y := (Fm.nm s).d) (by
        simp only [pE, x_var, x_con, x_glob, x_tup, x_lst, x_bin, x_neg, x_inv, x_cmp, x_not, x_ite, x_ix, x_sl, x_call, x_bi, x_Es0, x_Es1, x_O0, x_O1, x_C0, x_asg, x_par2, x_aug, x_if, x_ret, x_ex, x_never, x_Ss0, x_Ss1, R.bind_some, List.getElem?_cons_zero, List.getElem?_cons_succ, List.set_cons_zero, List.set_cons_succ, Option.map_some, List.map_cons, List.map_nil, List.replicate, List.cons_append, List.nil_append, List.append_nil, Nat.sub_self, asg_nm, asg_tup, asgs_nil, asgs_cons, List.length_cons, List.length_nil, rd'_int, rd'_str, rd'_tup, rd_lst', rd_bl, rd_non, rd_scr, t_bl, t_int, t_non, Nat.reduceAdd, Nat.reduceLT, reduceIte, and_self]
        rfl) c)).trans (Ss_rt (ret_ok (var_ok (d := (leafB b).d) rfl))))]
      unfold putIn
      rw [if_pos e]
    · have hn : isNm s (.nm t) = false := decide_eq_false e
      exact run_rt rfl rfl (put_start hf hs hd hn (put_fin hf hd rfl rfl hn (parts _ [] K st fun p hp => by cases hp)))
  | yes =>
    intro hf hd K hK st
    obtain ⟨K, rfl⟩ : ∃ j, K = j + 2 := ⟨K - 2, by omega⟩
    exact run_rt rfl rfl (put_start hf hs hd rfl (put_fin hf hd rfl rfl rfl (parts _ [] K st fun p hp => by cases hp)))
  | no =>
    intro hf hd K hK st
    obtain ⟨K, rfl⟩ : ∃ j, K = j + 2 := ⟨K - 2, by omega⟩
    exact run_rt rfl rfl (put_start hf hs hd rfl (put_fin hf hd rfl rfl rfl (parts _ [] K st fun p hp => by cases hp)))
  | not a ih =>
    intro hf hd K hK st
    obtain ⟨K, rfl⟩ : ∃ j, K = j + 2 := ⟨K - 2, by omega⟩
    simp only [Fm.deep] at hK
    refine run_rt rfl rfl (put_start hf hs hd rfl (put_fin hf hd rfl rfl rfl (parts _ [] K st fun p hp => ?_)))
    simp only [Fm.deep] at hd
    rw [List.mem_singleton.mp hp]
    exact ih hf (by omega) (K + 1) (by omega) st
  | bin w x y ihx ihy =>
    intro hf hd K hK st
    obtain ⟨K, rfl⟩ : ∃ j, K = j + 2 := ⟨K - 2, by omega⟩
    simp only [Fm.deep] at hK
    refine run_rt rfl rfl (put_start hf hs hd rfl (put_fin hf hd rfl rfl rfl (parts _ [] K st fun p hp => ?_)))
    simp only [Fm.deep] at hd
    simp only [Fm.parts, List.mem_cons, List.not_mem_nil, or_false] at hp
    rcases hp with rfl | rfl
    · exact ihx (fun x hx => hf x (by simp [Fm.names, hx])) (by omega) (K + 1) (by omega) st
    · exact ihy (fun x hx => hf x (by simp [Fm.names, hx])) (by omega) (K + 1) (by omega) st
  | ite x y z ihx ihy ihz =>
    intro hf hd K hK st
    obtain ⟨K, rfl⟩ : ∃ j, K = j + 2 := ⟨K - 2, by omega⟩
    simp only [Fm.deep] at hK
    refine run_rt rfl rfl (put_start hf hs hd rfl (put_fin hf hd rfl rfl rfl (parts _ [] K st fun p hp => ?_)))
    simp only [Fm.deep] at hd
    simp only [Fm.parts, List.mem_cons, List.not_mem_nil, or_false] at hp
    rcases hp with rfl | rfl | rfl
    · exact ihx (fun x hx => hf x (by simp [Fm.names, hx])) (by omega) (K + 1) (by omega) st
    · exact ihy (fun x hx => hf x (by simp [Fm.names, hx])) (by omega) (K + 1) (by omega) st
    · exact ihz (fun x hx => hf x (by simp [Fm.names, hx])) (by omega) (K + 1) (by omega) st
end
end Kw

set_option Elab.async false
set_option linter.all false
set_option maxRecDepth 100000
set_option maxHeartbeats 1000000
/-! Law k08: the contrary, another one. -/
namespace Kw
open PySem
theorem fm_clean : ∀ f : Fm, f.d.clean = true
  | .yes => rfl
  | .no => rfl
  | .nm _ => rfl
  | .not a => by simp only [Fm.d, D.clean, D.cleans, fm_clean a, Bool.and_self]
  | .bin _ a b => by simp only [Fm.d, D.clean, D.cleans, fm_clean a, fm_clean b, Bool.and_self]
  | .ite a b c => by simp only [Fm.d, D.clean, D.cleans, fm_clean a, fm_clean b, fm_clean c, Bool.and_self]
  | .qu _ _ a => by simp only [Fm.d, D.clean, D.cleans, fm_clean a, Bool.and_self]
  | .put _ a b => by simp only [Fm.d, D.clean, D.cleans, fm_clean a, fm_clean b, Bool.and_self]
section
variable {K : Nat} {st : Store}
theorem top_at {m : MO} : (st ++ [m])[st.length]? = some m := by
  rw [List.getElem?_append_right (Nat.le_refl _), Nat.sub_self]
  rfl
theorem ix_top {kvs : List (L2.Key × D)} {k d : D} {kk : L2.Key} (hk : k.key = some kk) (h : lookK kvs kk = some d) : ixD (st ++ [.dK kvs]) (.ref st.length) k = some d := by
  simp only [ixD, top_at, hk, h]
theorem get_top {kvs : List (L2.Key × D)} {k x : D} {kk : L2.Key} (hk : k.key = some kk) : mtD .get2 (.ref st.length) [k, x] (st ++ [.dK kvs]) = some ((lookK kvs kk).getD x, st ++ [.dK kvs]) := by
  simp only [mtD, top_at, hk]
theorem nd_ok {cf : CF} {ks : List Str} {es : List E} {ds : List D} {env : Env} {kvs : List (L2.Key × D)} (h : evEs cf es env st = some (ds, st)) (hu : D.cleans ds = true) (hl : ks.length = ds.length) (h15 : ks.length ≤ 15) (hk : mergeD [] ((ks.map Sum.inr).zip ds) = kvs) : evE cf (.ndic ks es) env st = some (.ref st.length, st ++ [.dK kvs]) := by
  rw [x_ndic, h, R.bind_some, D.unds_clean ds hu, decide_eq_true hl, decide_eq_true h15, hk]
  rfl
def cE (f : Fm) : Env := [some f.d, some (.str f.word)]
theorem contrary_fin {f : Fm} {more : Store} (e : evSs (cfN tab K) (ir_law_contrary.body.drop 1) (cE f) st = some (.rt (contrary f).d, st ++ more)) : cfN tab (K + 1) F_law_contrary [f.d] st = some ((contrary f).d, st) := by
  have e2 : evSs (cfN tab K) ir_law_contrary.body ([f.d].map some ++ List.replicate (ir_law_contrary.nn - ir_law_contrary.np) none) st = some (.rt (contrary f).d, st ++ more) := by
    show evSs (cfN tab K) (_ :: ir_law_contrary.body.drop 1) [some f.d, none] st = _
    rw [Ss_nx (asg_ok (x := .str f.word) (st1 := st) (env1 := cE f) (by
      rw [x_ix, var_ok (d := f.d) rfl, R.bind_some, x_con, R.bind_some, ix_word]
      rfl) rfl)]
    exact e
  rw [run_c (f := ir_law_contrary) rfl rfl e2 (fm_clean _), List.take_left' rfl]
theorem nots {cf : CF} {i : Nat} {env : Env} {e : E} {d : D} (h : evE cf e env st = some (d, st)) : evE cf (.tup [.con (.str "not"), e]) env st = some (.tup [.str "not", d], st) := by
  rw [x_tup, x_Es1, x_con, R.bind_some, x_Es1, h, R.bind_some, x_Es0]
  rfl
theorem contrary_ok (f : Fm) : cfN tab (K + 1) F_law_contrary [f.d] st = some ((contrary f).d, st) := by
  have nf {c : E} {b : List S} {f : Fm} (h : evE (cfN tab K) c (cE f) st = some (.bl false, st)) : evS (cfN tab K) (.if_ c b []) (cE f) st = some (.nx (cE f), st) := (if_f h).trans x_Ss0
  have two : ∀ (f : Fm) (w : Str) (v : Str) (a b : Fm) (more : List MO) (e : E), evE (cfN tab K) e (cE f) st = some (.str v, st ++ more) → f.d = .tup [.str w, a.d, b.d] → evE (cfN tab K) (.tup [e, (.tup [(.con (.str "not")), (.ix (.var 0) (.con (.int 1)))]), (.tup [(.con (.str "not")), (.ix (.var 0) (.con (.int 2)))])]) (cE f) st = some (.tup [.str v, (Fm.not a).d, (Fm.not b).d], st ++ more) := by
    intro f w v a b more e h hd
    have e1 : evE (cfN tab K) (.tup [(.con (.str "not")), (.ix (.var 0) (.con (.int 1)))]) (cE f) (st ++ more) = some ((Fm.not a).d, st ++ more) := by
      unfold cE
      rw [hd]
      kernel_rfl
    have e2 : evE (cfN tab K) (.tup [(.con (.str "not")), (.ix (.var 0) (.con (.int 2)))]) (cE f) (st ++ more) = some ((Fm.not b).d, st ++ more) := by
      unfold cE
      rw [hd]
      kernel_rfl
    rw [x_tup, x_Es1, h, R.bind_some, x_Es1, e1, R.bind_some, x_Es1, e2, R.bind_some, x_Es0]
    rfl
  have go : ∀ (f : Fm) (more : List MO), evSs (cfN tab K) (ir_law_contrary.body.drop 1) (cE f) st = some (.rt (contrary f).d, st ++ more) → cfN tab (K + 1) F_law_contrary [f.d] st = some ((contrary f).d, st) := fun f more e => contrary_fin e
  have last : ∀ (f : Fm) (x : D) (kvs : List (L2.Key × D)), (evE (cfN tab K) (.ite (.cmp .Eq (.var 1) (.con (.str "not"))) (.ix (.var 0) (.con (.int 1))) (.tup [(.con (.str "not")), (.var 0)])) (cE f) (st ++ [.dK [(.inr "yes", Fm.no.d), (.inr "no", Fm.yes.d)]]) = some (x, st ++ [.dK [(.inr "yes", Fm.no.d), (.inr "no", Fm.yes.d)]])) → (lookK [(.inr "yes", Fm.no.d), (.inr "no", Fm.yes.d)] (.inr f.word)).getD x = (contrary f).d →
      evS (cfN tab K) (.ret (.mt .get2 (.ndic ["yes", "no"] [(.tup [(.con (.str "no"))]), (.tup [(.con (.str "yes"))])]) [(.var 1), (.ite (.cmp .Eq (.var 1) (.con (.str "not"))) (.ix (.var 0) (.con (.int 1))) (.tup [(.con (.str "not")), (.var 0)]))])) (cE f) st = some (.rt (contrary f).d, st ++ [.dK [(.inr "yes", Fm.no.d), (.inr "no", Fm.yes.d)]]) := by
    intro f x kvs h1 h2
    refine ret_ok ?_
    have n := nd_ok (cf := cfN tab K) (st := st) (ks := ["yes", "no"]) (es := [(.tup [(.con (.str "no"))]), (.tup [(.con (.str "yes"))])]) (ds := [Fm.no.d, Fm.yes.d]) (env := cE f) (kvs := [(.inr "yes", Fm.no.d), (.inr "no", Fm.yes.d)]) (by simp only [x_var, x_con, x_glob, x_tup, x_lst, x_bin, x_neg, x_inv, x_cmp, x_not, x_ite, x_ix, x_sl, x_call, x_bi, x_Es0, x_Es1, x_O0, x_O1, x_C0, x_asg, x_par2, x_aug, x_if, x_ret, x_ex, x_never, x_Ss0, x_Ss1, R.bind_some, List.getElem?_cons_zero, List.getElem?_cons_succ, List.set_cons_zero, List.set_cons_succ, Option.map_some, List.map_cons, List.map_nil, List.replicate, List.cons_append, List.nil_append, List.append_nil, Nat.sub_self, asg_nm, asg_tup, asgs_nil, asgs_cons, List.length_cons, List.length_nil, rd'_int, rd'_str, rd'_tup, rd_lst', rd_bl, rd_non, rd_scr, t_bl, t_int, t_non, Nat.reduceAdd, Nat.reduceLT, reduceIte, and_self]; rfl) rfl rfl (by decide) (by kernel_rfl)
    rw [x_mt, n, R.bind_some, if_pos (by simp only [mtTy, top_at]), x_Es1, var_ok (d := .str f.word) rfl, R.bind_some, x_Es1, h1, R.bind_some, x_Es0, R.bind_some, R.bind_some, R.bind_some, get_top rfl, h2]
  cases f with
  | yes =>
    refine go _ [.dK [(.inr "yes", Fm.no.d), (.inr "no", Fm.yes.d)]] ?_
    show evSs (cfN tab K) [_, _, _, _, _, _] _ _ = _
    rw [Ss_nx (nf (by kernel_rfl)), Ss_nx (nf (by kernel_rfl)), Ss_nx (nf (by kernel_rfl)), Ss_nx (nf (by kernel_rfl)), Ss_nx (nf (by kernel_rfl))]
    exact Ss_rt (last _ (Fm.not .yes).d [] (by kernel_rfl) (by kernel_rfl))
  | no =>
    refine go _ [.dK [(.inr "yes", Fm.no.d), (.inr "no", Fm.yes.d)]] ?_
    show evSs (cfN tab K) [_, _, _, _, _, _] _ _ = _
    rw [Ss_nx (nf (by kernel_rfl)), Ss_nx (nf (by kernel_rfl)), Ss_nx (nf (by kernel_rfl)), Ss_nx (nf (by kernel_rfl)), Ss_nx (nf (by kernel_rfl))]
    exact Ss_rt (last _ (Fm.not .no).d [] (by kernel_rfl) (by kernel_rfl))
  | nm s =>
    refine go _ [.dK [(.inr "yes", Fm.no.d), (.inr "no", Fm.yes.d)]] ?_
    show evSs (cfN tab K) [_, _, _, _, _, _] _ _ = _
    rw [Ss_nx (nf (by kernel_rfl)), Ss_nx (nf (by kernel_rfl)), Ss_nx (nf (by kernel_rfl)), Ss_nx (nf (by kernel_rfl)), Ss_nx (nf (by kernel_rfl))]
    exact Ss_rt (last _ (Fm.not (.nm s)).d [] (by kernel_rfl) (by kernel_rfl))
  | not a =>
    refine go _ [.dK [(.inr "yes", Fm.no.d), (.inr "no", Fm.yes.d)]] ?_
    show evSs (cfN tab K) [_, _, _, _, _, _] _ _ = _
    rw [Ss_nx (nf (by kernel_rfl)), Ss_nx (nf (by kernel_rfl)), Ss_nx (nf (by kernel_rfl)), Ss_nx (nf (by kernel_rfl)), Ss_nx (nf (by kernel_rfl))]
    exact Ss_rt (last _ a.d [] (by kernel_rfl) (by kernel_rfl))
  | bin w a b =>
    match w with
    | 0 =>
      refine go _ [.dK [(.inr "and", .str "or"), (.inr "or", .str "and")]] ?_
      show evSs (cfN tab K) (_ :: _) _ _ = _
      refine Ss_rt ((if_t (st1 := st) (by kernel_rfl)).trans (Ss_rt (ret_ok (two (.bin 0 a b) "and" "or" a b _ _ ?_ rfl))))
      have n := nd_ok (cf := cfN tab K) (st := st) (ks := ["and", "or"]) (es := [(.con (.str "or")), (.con (.str "and"))]) (ds := [.str "or", .str "and"]) (env := cE (.bin 0 a b)) (kvs := [(.inr "and", .str "or"), (.inr "or", .str "and")]) (by simp only [x_var, x_con, x_glob, x_tup, x_lst, x_bin, x_neg, x_inv, x_cmp, x_not, x_ite, x_ix, x_sl, x_call, x_bi, x_Es0, x_Es1, x_O0, x_O1, x_C0, x_asg, x_par2, x_aug, x_if, x_ret, x_ex, x_never, x_Ss0, x_Ss1, R.bind_some, List.getElem?_cons_zero, List.getElem?_cons_succ, List.set_cons_zero, List.set_cons_succ, Option.map_some, List.map_cons, List.map_nil, List.replicate, List.cons_append, List.nil_append, List.append_nil, Nat.sub_self, asg_nm, asg_tup, asgs_nil, asgs_cons, List.length_cons, List.length_nil, rd'_int, rd'_str, rd'_tup, rd_lst', rd_bl, rd_non, rd_scr, t_bl, t_int, t_non, Nat.reduceAdd, Nat.reduceLT, reduceIte, and_self]) rfl rfl (by decide) (by kernel_rfl)
      rw [x_ix, n, R.bind_some, var_ok (d := .str "and") rfl, R.bind_some, ix_top (d := .str "or") rfl (by kernel_rfl)]
      rfl
    | 1 =>
      refine go _ [.dK [(.inr "and", .str "or"), (.inr "or", .str "and")]] ?_
      show evSs (cfN tab K) (_ :: _) _ _ = _
      refine Ss_rt ((if_t (st1 := st) (by kernel_rfl)).trans (Ss_rt (ret_ok (two (.bin 1 a b) "or" "and" a b _ _ ?_ rfl))))
      have n := nd_ok (cf := cfN tab K) (st := st) (ks := ["and", "or"]) (es := [(.con (.str "or")), (.con (.str "and"))]) (ds := [.str "or", .str "and"]) (env := cE (.bin 1 a b)) (kvs := [(.inr "and", .str "or"), (.inr "or", .str "and")]) (by simp only [x_var, x_con, x_glob, x_tup, x_lst, x_bin, x_neg, x_inv, x_cmp, x_not, x_ite, x_ix, x_sl, x_call, x_bi, x_Es0, x_Es1, x_O0, x_O1, x_C0, x_asg, x_par2, x_aug, x_if, x_ret, x_ex, x_never, x_Ss0, x_Ss1, R.bind_some, List.getElem?_cons_zero, List.getElem?_cons_succ, List.set_cons_zero, List.set_cons_succ, Option.map_some, List.map_cons, List.map_nil, List.replicate, List.cons_append, List.nil_append, List.append_nil, Nat.sub_self, asg_nm, asg_tup, asgs_nil, asgs_cons, List.length_cons, List.length_nil, rd'_int, rd'_str, rd'_tup, rd_lst', rd_bl, rd_non, rd_scr, t_bl, t_int, t_non, Nat.reduceAdd, Nat.reduceLT, reduceIte, and_self]) rfl rfl (by decide) (by kernel_rfl)
      rw [x_ix, n, R.bind_some, var_ok (d := .str "or") rfl, R.bind_some, ix_top (d := .str "and") rfl (by kernel_rfl)]
      rfl
    | 2 =>
      refine go _ [] ?_
      rw [List.append_nil]
      show evSs (cfN tab K) [_, _, _, _, _, _] _ _ = _
      rw [Ss_nx (nf (by kernel_rfl))]
      exact Ss_rt ((if_t (st1 := st) (by kernel_rfl)).trans (Ss_rt (by kernel_rfl)))
  | ite a b c =>
    refine go _ [] ?_
    rw [List.append_nil]
    show evSs (cfN tab K) [_, _, _, _, _, _] _ _ = _
    rw [Ss_nx (nf (by kernel_rfl)), Ss_nx (nf (by kernel_rfl)), Ss_nx (nf (by kernel_rfl))]
    exact Ss_rt ((if_t (st1 := st) (by kernel_rfl)).trans (Ss_rt (by kernel_rfl)))
  | qu w s a =>
    refine go _ [.dK [(.inr "some", .str "all"), (.inr "all", .str "some")]] ?_
    show evSs (cfN tab K) [_, _, _, _, _, _] _ _ = _
    have n := nd_ok (cf := cfN tab K) (st := st) (ks := ["some", "all"]) (es := [(.con (.str "all")), (.con (.str "some"))]) (ds := [.str "all", .str "some"]) (env := cE (.qu w s a)) (kvs := [(.inr "some", .str "all"), (.inr "all", .str "some")]) (by simp only [x_var, x_con, x_glob, x_tup, x_lst, x_bin, x_neg, x_inv, x_cmp, x_not, x_ite, x_ix, x_sl, x_call, x_bi, x_Es0, x_Es1, x_O0, x_O1, x_C0, x_asg, x_par2, x_aug, x_if, x_ret, x_ex, x_never, x_Ss0, x_Ss1, R.bind_some, List.getElem?_cons_zero, List.getElem?_cons_succ, List.set_cons_zero, List.set_cons_succ, Option.map_some, List.map_cons, List.map_nil, List.replicate, List.cons_append, List.nil_append, List.append_nil, Nat.sub_self, asg_nm, asg_tup, asgs_nil, asgs_cons, List.length_cons, List.length_nil, rd'_int, rd'_str, rd'_tup, rd_lst', rd_bl, rd_non, rd_scr, t_bl, t_int, t_non, Nat.reduceAdd, Nat.reduceLT, reduceIte, and_self]) rfl rfl (by decide) (by kernel_rfl)
    generalize hst : st ++ [MO.dK [(.inr "some", .str "all"), (.inr "all", .str "some")]] = st2 at *
    have e1 : evE (cfN tab K) (.ix (.var 0) (.con (.int 1))) (cE (.qu w s a)) st2 = some (.str s, st2) := by cases w <;> kernel_rfl
    have e2 : evE (cfN tab K) (.tup [(.con (.str "not")), (.ix (.var 0) (.con (.int 2)))]) (cE (.qu w s a)) st2 = some ((Fm.not a).d, st2) := by cases w <;> kernel_rfl
    have t1 : evE (cfN tab K) ((.cmp .In (.var 1) (.tup [(.con (.str "and")), (.con (.str "or"))]))) (cE (.qu w s a)) st = some (.bl false, st) := by cases w <;> kernel_rfl
    have t2 : evE (cfN tab K) ((.cmp .Eq (.var 1) (.con (.str "xor")))) (cE (.qu w s a)) st = some (.bl false, st) := by cases w <;> kernel_rfl
    have t3 : evE (cfN tab K) ((.cmp .In (.var 1) (.tup [(.con (.str "some")), (.con (.str "all"))]))) (cE (.qu w s a)) st = some (.bl true, st) := by cases w <;> kernel_rfl
    rw [Ss_nx (nf t1), Ss_nx (nf t2)]
    refine Ss_rt ((if_t t3).trans (Ss_rt (ret_ok ?_)))
    have e0 : evE (cfN tab K) (.ix (.ndic ["some", "all"] [(.con (.str "all")), (.con (.str "some"))]) (.var 1)) (cE (.qu w s a)) st = some (.str (quW (!w)), st2) := by
      rw [x_ix, n, R.bind_some, var_ok (d := .str (quW w)) (by cases w <;> rfl), R.bind_some, ← hst, ix_top (d := .str (quW (!w))) rfl (by cases w <;> kernel_rfl)]
      rfl
    rw [x_tup, x_Es1, e0, R.bind_some, x_Es1, e1, R.bind_some, x_Es1, e2, R.bind_some, x_Es0]
    rfl
  | put s a b =>
    refine go _ [] ?_
    rw [List.append_nil]
    show evSs (cfN tab K) [_, _, _, _, _, _] _ _ = _
    rw [Ss_nx (nf (by kernel_rfl)), Ss_nx (nf (by kernel_rfl)), Ss_nx (nf (by kernel_rfl)), Ss_nx (nf (by kernel_rfl))]
    exact Ss_rt ((if_t (st1 := st) (by kernel_rfl)).trans (Ss_rt (by kernel_rfl)))
end
end Kw

set_option Elab.async false
set_option linter.all false
set_option maxRecDepth 100000
set_option maxHeartbeats 1000000
/-! Law k08: another formula, a part turned, names called otherwise. -/
namespace Kw
open PySem
section
variable {K : Nat} {st : Store} {ns : List Int} {rest : Store}
def oE (f : Fm) (o3 o4 o5 o6 o7 o8 o9 : Option D) : Env := [some (.ref 1), some f.d, some (.str f.word), o3, o4, o5, o6, o7, o8, o9]
theorem others_len (f : Fm) : 0 < (others f).length ∧ (others f).length ≤ 10 := by
  have a : ∀ w a b, (assoc w a b).length ≤ 1 := fun w a b => by
    cases b with
    | bin v x y =>
      show (if v = w then [Fm.bin w (.bin w a x) y] else []).length ≤ 1
      split <;> simp
    | _ => simp [assoc]
  cases f with
  | bin w x y =>
    match w with
    | 0 => have := a 0 x y; simp [others]; omega
    | 1 => have := a 1 x y; simp [others]; omega
    | 2 => have := a 2 x y; simp [others]; omega
  | qu w s a => cases w <;> simp [others]
  | _ => simp [others]
/-- one of them is taken -/
theorem pick_ok (hK : 3 ≤ K) (f : Fm) (h : Sx ns rest st) {cf : E} {env : Env} (h0 : env[0]? = some (some (.ref 1))) (he : evE (cfN tab K) cf env st = some (.lst ((others f).map Fm.d), st)) :
    ∃ g st', evS (cfN tab K) (.ret (.call F_law_one [.var 0, cf])) env st = some (.rt g.d, st') ∧ Like f g ∧ Sx ns rest st' := by
  obtain ⟨l0, l1⟩ := others_len f
  obtain ⟨d, st', e, hd, h'⟩ := one_ge hK (things := (others f).map Fm.d) (by rw [List.length_map]; exact l0) (by rw [List.length_map]; omega) (fun d hd => by
    obtain ⟨g, _, rfl⟩ := List.mem_map.mp hd
    exact fm_clean g) h
  obtain ⟨g, hg, rfl⟩ := List.mem_map.mp hd
  refine ⟨g, st', ret_ok (call_ok (ds := [.ref 1, .lst ((others f).map Fm.d)]) ?_ e), others_like f hg, h'⟩
  rw [x_Es1, var_ok h0, R.bind_some, x_Es1, he, R.bind_some, x_Es0]
  rfl
theorem other_fin {f g : Fm} {st' : Store} (h : Sx ns rest st) (e : evSs (cfN tab K) (ir_law_other.body.drop 1) (oE f none none none none none none none) st = some (.rt g.d, st')) (h' : Sx ns rest st') : ∃ st'', cfN tab (K + 1) F_law_other [.ref 1, f.d] st = some (g.d, st'') ∧ Sx ns rest st'' := by
  refine run_x0 (f := ir_law_other) h rfl rfl (st1 := st') (d := g.d) ?_ (fm_clean g) h'
  show evSs (cfN tab K) (_ :: ir_law_other.body.drop 1) [some (.ref 1), some f.d, none, none, none, none, none, none, none, none] st = _
  rw [Ss_nx (asg_ok (x := .str f.word) (st1 := st) (env1 := oE f none none none none none none none) (by
    rw [x_ix, var_ok (d := f.d) rfl, R.bind_some, x_con, R.bind_some, ix_word]
    rfl) rfl)]
  exact e
theorem ne_w {a b : Str} (h : decide (a = b) = false) (e : a = b) : False := by
  rw [decide_eq_true e] at h
  cases h
theorem word_bin (b : Fm) (w : Fin 3) : b.word = binW w → ∃ x y, b = .bin w x y := by
  intro h
  cases b with
  | bin v x y =>
    refine ⟨x, y, ?_⟩
    have : v = w := by
      revert h
      match v, w with
      | 0, 0 => exact fun _ => rfl
      | 1, 1 => exact fun _ => rfl
      | 2, 2 => exact fun _ => rfl
      | 0, 1 => exact fun h => (ne_w (by kernel_rfl) h).elim
      | 0, 2 => exact fun h => (ne_w (by kernel_rfl) h).elim
      | 1, 0 => exact fun h => (ne_w (by kernel_rfl) h).elim
      | 1, 2 => exact fun h => (ne_w (by kernel_rfl) h).elim
      | 2, 0 => exact fun h => (ne_w (by kernel_rfl) h).elim
      | 2, 1 => exact fun h => (ne_w (by kernel_rfl) h).elim
    rw [this]
  | qu v s a =>
    revert h
    cases v <;> (match w with
      | 0 => exact fun h => (ne_w (by kernel_rfl) h).elim
      | 1 => exact fun h => (ne_w (by kernel_rfl) h).elim
      | 2 => exact fun h => (ne_w (by kernel_rfl) h).elim)
  | _ =>
    revert h
    match w with
    | 0 => exact fun h => (ne_w (by kernel_rfl) h).elim
    | 1 => exact fun h => (ne_w (by kernel_rfl) h).elim
    | 2 => exact fun h => (ne_w (by kernel_rfl) h).elim
theorem okS_word (f : Fm) : okS f.word := by
  unfold okS
  cases f with
  | bin w a b =>
    match w with
    | 0 => kernel_rfl
    | 1 => kernel_rfl
    | 2 => kernel_rfl
  | qu w s a => cases w <;> kernel_rfl
  | _ => kernel_rfl
/-- the brackets moved, where the second one is told by the same word -/
theorem assoc_step {cf : CF} {w : Fin 3} {a b : Fm} : evS cf (.if_ (.cmp .Eq (.ix (.var 6) (.con (.int 0))) (.var 2)) [.asg (.nm 3) (.bin .Add (.var 3) (.lst [(.tup [(.var 2), (.tup [(.var 2), (.var 5), (.ix (.var 6) (.con (.int 1)))]), (.ix (.var 6) (.con (.int 2)))])]))] []) (oE (.bin w a b) (some (.lst [(Fm.bin w b a).d])) none (some a.d) (some b.d) none none none) st = some (.nx (oE (.bin w a b) (some (.lst (([Fm.bin w b a] ++ assoc w a b).map Fm.d))) none (some a.d) (some b.d) none none none), st) := by
  have c : evE cf (.cmp .Eq (.ix (.var 6) (.con (.int 0))) (.var 2)) (oE (.bin w a b) (some (.lst [(Fm.bin w b a).d])) none (some a.d) (some b.d) none none none) st = some (.bl (decide (b.word = (Fm.bin w a b).word)), st) := by
    refine cmp_ok (x := .str b.word) ?_ (var_ok rfl) (cmp_ss (okS_word b) (okS_word _))
    rw [x_ix, var_ok (d := b.d) rfl, R.bind_some, x_con, R.bind_some, ix_word]
    rfl
  have ew : (Fm.bin w a b).word = binW w := by
    match w with
    | 0 => rfl
    | 1 => rfl
    | 2 => rfl
  rw [ew] at c
  by_cases e : b.word = binW w
  · obtain ⟨x, y, rfl⟩ := word_bin b w e
    rw [decide_eq_true e] at c
    have q : assoc w a (.bin w x y) = [.bin w (.bin w a x) y] := if_pos rfl
    rw [if_t c, q]
    refine (Ss_nx (asg_ok (x := .lst [(Fm.bin w (.bin w x y) a).d, (Fm.bin w (.bin w a x) y).d]) (st1 := st) (env1 := oE (.bin w a (.bin w x y)) (some (.lst [(Fm.bin w (.bin w x y) a).d, (Fm.bin w (.bin w a x) y).d])) none (some a.d) (some (Fm.bin w x y).d) none none none) ?_ rfl)).trans x_Ss0
    refine bin_ok (x := .lst [(Fm.bin w (.bin w x y) a).d]) (y := .lst [(Fm.bin w (.bin w a x) y).d]) (var_ok rfl) ?_ (d_addL (by simp))
    match w with
    | 0 => kernel_rfl
    | 1 => kernel_rfl
    | 2 => kernel_rfl
  · rw [decide_eq_false e] at c
    have q : assoc w a b = [] := by
      cases b with
      | bin v x y =>
        refine if_neg fun z => e ?_
        subst z
        match v with
        | 0 => rfl
        | 1 => rfl
        | 2 => rfl
      | _ => rfl
    rw [if_f c, q]
    exact x_Ss0
theorem sides_lc {i j : Int} {env : Env} {a : Fm} {s : Str} (ha : ∀ x ∈ a.names, Nm x) (hs : Nm s) (hd : a.deep ≤ 50) (hK : a.deep + 2 ≤ K) (he : ∀ d, ∃ env1, asgG (.nm 9) d (wipeD env [9]) = some env1 ∧ evE (cfN tab K) (.ix (.var 1) (.con (.int i))) env1 st = some (a.d, st) ∧ evE (cfN tab K) (.ix (.var 1) (.con (.int j))) env1 st = some (.str s, st) ∧ evE (cfN tab K) (.var 9) env1 st = some (d, st)) :
    evE (cfN tab K) (.lc false (.call F_law_put_in [(.ix (.var 1) (.con (.int i))), (.ix (.var 1) (.con (.int j))), (.var 9)]) (.nm 9) (.seq (.tup [(.tup [(.con (.str "yes"))]), (.tup [(.con (.str "no"))])])) none [9]) env st = some (.lst [(putIn s true a).d, (putIn s false a).d], st) := by
  have hi : evI (cfN tab K) (.seq (.tup [(.tup [(.con (.str "yes"))]), (.tup [(.con (.str "no"))])])) env st = some ([(leafB true).d, (leafB false).d], st) := by
    rw [x_seq]
    simp only [x_var, x_con, x_glob, x_tup, x_lst, x_bin, x_neg, x_inv, x_cmp, x_not, x_ite, x_ix, x_sl, x_call, x_bi, x_Es0, x_Es1, x_O0, x_O1, x_C0, x_asg, x_par2, x_aug, x_if, x_ret, x_ex, x_never, x_Ss0, x_Ss1, R.bind_some, List.getElem?_cons_zero, List.getElem?_cons_succ, List.set_cons_zero, List.set_cons_succ, Option.map_some, List.map_cons, List.map_nil, List.replicate, List.cons_append, List.nil_append, List.append_nil, Nat.sub_self, asg_nm, asg_tup, asgs_nil, asgs_cons, List.length_cons, List.length_nil, rd'_int, rd'_str, rd'_tup, rd_lst', rd_bl, rd_non, rd_scr, t_bl, t_int, t_non, Nat.reduceAdd, Nat.reduceLT, reduceIte, and_self]
    rfl
  have one : ∀ b, lcF (evC (cfN tab K) none) (evE (cfN tab K) (.call F_law_put_in [(.ix (.var 1) (.con (.int i))), (.ix (.var 1) (.con (.int j))), (.var 9)])) (.nm 9) [9] env (leafB b).d st = some (some (putIn s b a).d, st) := fun b => by
    obtain ⟨env1, e1, e2, e3, e4⟩ := he (leafB b).d
    rw [lcF_no e1, x_C0, R.bind_some, if_pos rfl, call_ok (ds := [a.d, .str s, (leafB b).d]) (by rw [x_Es1, e2, R.bind_some, x_Es1, e3, R.bind_some, x_Es1, e4, R.bind_some, x_Es0]; rfl) (put_in_ok hs b a ha hd K hK st), R.bind_some]
  rw [x_lc, hi, R.bind_some, evLc, one true, R.bind_some, evLc, one false, R.bind_some]
  rfl
theorem other_ok (f : Fm) (hf : ∀ x ∈ f.names, Nm x) (hd : f.deep ≤ 40) (hK : f.deep + 6 ≤ K) (h : Sx ns rest st) : ∃ g st', cfN tab K F_law_other [.ref 1, f.d] st = some (g.d, st') ∧ Like f g ∧ Sx ns rest st' := by
  obtain ⟨K, rfl⟩ : ∃ j, K = j + 1 := ⟨K - 1, by omega⟩
  have nf {c : E} {b : List S} {o3 o4 o5 o6 o7 o8 o9 : Option D} {f : Fm} (h : evE (cfN tab K) c (oE f o3 o4 o5 o6 o7 o8 o9) st = some (.bl false, st)) : evS (cfN tab K) (.if_ c b []) (oE f o3 o4 o5 o6 o7 o8 o9) st = some (.nx (oE f o3 o4 o5 o6 o7 o8 o9), st) := (if_f h).trans x_Ss0
  have go : ∀ {f : Fm}, (∃ g st', evSs (cfN tab K) (ir_law_other.body.drop 1) (oE f none none none none none none none) st = some (.rt g.d, st') ∧ Like f g ∧ Sx ns rest st') → ∃ g st', cfN tab (K + 1) F_law_other [.ref 1, f.d] st = some (g.d, st') ∧ Like f g ∧ Sx ns rest st' := by
    rintro f ⟨g, st', e, l, h'⟩
    obtain ⟨st'', e2, h2⟩ := other_fin h e h'
    exact ⟨g, st'', e2, l, h2⟩
  have leaf : ∀ f : Fm, others f = [.not (.not f), .bin 0 f f, .bin 1 f .no] → (∀ c ∈ [((.cmp .Eq (.var 2) (.con (.str "not")))), ((.cmp .In (.var 2) (.tup [(.con (.str "and")), (.con (.str "or")), (.con (.str "xor"))]))), ((.cmp .Eq (.var 2) (.con (.str "if")))), ((.cmp .In (.var 2) (.tup [(.con (.str "some")), (.con (.str "all"))]))), ((.cmp .Eq (.var 2) (.con (.str "put"))))], evE (cfN tab K) c (oE f none none none none none none none) st = some (.bl false, st)) → ∃ g st', cfN tab (K + 1) F_law_other [.ref 1, f.d] st = some (g.d, st') ∧ Like f g ∧ Sx ns rest st' := by
    intro f ho hc
    have he : evE (cfN tab K) (.lst [(.tup [(.con (.str "not")), (.tup [(.con (.str "not")), (.var 1)])]), (.tup [(.con (.str "and")), (.var 1), (.var 1)]), (.tup [(.con (.str "or")), (.var 1), (.tup [(.con (.str "no"))])])]) (oE f none none none none none none none) st = some (.lst ((others f).map Fm.d), st) := by
      rw [ho]
      simp only [oE, x_var, x_con, x_glob, x_tup, x_lst, x_bin, x_neg, x_inv, x_cmp, x_not, x_ite, x_ix, x_sl, x_call, x_bi, x_Es0, x_Es1, x_O0, x_O1, x_C0, x_asg, x_par2, x_aug, x_if, x_ret, x_ex, x_never, x_Ss0, x_Ss1, R.bind_some, List.getElem?_cons_zero, List.getElem?_cons_succ, List.set_cons_zero, List.set_cons_succ, Option.map_some, List.map_cons, List.map_nil, List.replicate, List.cons_append, List.nil_append, List.append_nil, Nat.sub_self, asg_nm, asg_tup, asgs_nil, asgs_cons, List.length_cons, List.length_nil, rd'_int, rd'_str, rd'_tup, rd_lst', rd_bl, rd_non, rd_scr, t_bl, t_int, t_non, Nat.reduceAdd, Nat.reduceLT, reduceIte, and_self]
      rfl
    obtain ⟨g, st', e, l, h'⟩ := pick_ok (K := K) (by omega) f h (env := oE f none none none none none none none) rfl he
    refine go ⟨g, st', ?_, l, h'⟩
    show evSs (cfN tab K) [_, _, _, _, _, _] _ _ = _
    rw [Ss_nx (nf (hc _ (by simp))), Ss_nx (nf (hc _ (by simp))), Ss_nx (nf (hc _ (by simp))), Ss_nx (nf (hc _ (by simp))), Ss_nx (nf (hc _ (by simp)))]
    exact Ss_rt e
  cases f with
  | yes =>
    refine leaf .yes rfl fun c hc => ?_
    simp only [List.mem_cons, List.not_mem_nil, or_false] at hc
    rcases hc with rfl | rfl | rfl | rfl | rfl <;> kernel_rfl
  | no =>
    refine leaf .no rfl fun c hc => ?_
    simp only [List.mem_cons, List.not_mem_nil, or_false] at hc
    rcases hc with rfl | rfl | rfl | rfl | rfl <;> kernel_rfl
  | nm s =>
    refine leaf (.nm s) rfl fun c hc => ?_
    simp only [List.mem_cons, List.not_mem_nil, or_false] at hc
    rcases hc with rfl | rfl | rfl | rfl | rfl <;> kernel_rfl
  | not a =>
    refine go ⟨contrary a, st, ?_, contrary_like a, h⟩
    show evSs (cfN tab K) [_, _, _, _, _, _] _ _ = _
    obtain ⟨K, rfl⟩ : ∃ j, K = j + 1 := ⟨K - 1, by omega⟩
    refine Ss_rt ((if_t (st1 := st) (by kernel_rfl)).trans (Ss_rt (ret_ok (call_ok (ds := [a.d]) ?_ (contrary_ok a)))))
    rw [x_Es1, show evE (cfN tab (K + 1)) (.ix (.var 1) (.con (.int 1))) (oE (.not a) none none none none none none none) st = some (a.d, st) by kernel_rfl, R.bind_some, x_Es0]
    rfl
  | bin w a b =>
    have t0 : evE (cfN tab K) ((.cmp .Eq (.var 2) (.con (.str "not")))) (oE (.bin w a b) none none none none none none none) st = some (.bl false, st) := by
      match w with
      | 0 => kernel_rfl
      | 1 => kernel_rfl
      | 2 => kernel_rfl
    have t1 : evE (cfN tab K) ((.cmp .In (.var 2) (.tup [(.con (.str "and")), (.con (.str "or")), (.con (.str "xor"))]))) (oE (.bin w a b) none none none none none none none) st = some (.bl true, st) := by
      match w with
      | 0 => kernel_rfl
      | 1 => kernel_rfl
      | 2 => kernel_rfl
    have s1 : evS (cfN tab K) (.par2 5 6 (.ix (.var 1) (.con (.int 1))) (.ix (.var 1) (.con (.int 2)))) (oE (.bin w a b) none none none none none none none) st = some (.nx (oE (.bin w a b) none none (some a.d) (some b.d) none none none), st) := by
      match w with
      | 0 => kernel_rfl
      | 1 => kernel_rfl
      | 2 => kernel_rfl
    have s2 : evS (cfN tab K) (.asg (.nm 3) (.lst [(.tup [(.var 2), (.var 6), (.var 5)])])) (oE (.bin w a b) none none (some a.d) (some b.d) none none none) st = some (.nx (oE (.bin w a b) (some (.lst [(Fm.bin w b a).d])) none (some a.d) (some b.d) none none none), st) := by
      match w with
      | 0 => kernel_rfl
      | 1 => kernel_rfl
      | 2 => kernel_rfl
    have s3 := assoc_step (cf := cfN tab K) (st := st) (w := w) (a := a) (b := b)
    have al : (assoc w a b).length ≤ 1 := by
      cases b with
      | bin v x y =>
        show (if v = w then [Fm.bin w (.bin w a x) y] else []).length ≤ 1
        split <;> simp
      | _ => simp [assoc]
    have s4 : ∃ o7, evS (cfN tab K) (.if_ (.cmp .NotEq (.var 2) (.con (.str "xor"))) [.asg (.nm 3) (.bin .Add (.var 3) (.lst [(.tup [(.con (.str "not")), (.tup [(.ix (.lst [(.con (.str "or")), (.con (.str "and"))]) (.bi .int [(.cmp .Eq (.var 2) (.con (.str "or")))])), (.tup [(.con (.str "not")), (.var 5)]), (.tup [(.con (.str "not")), (.var 6)])])])])), .asg (.nm 3) (.bin .Add (.var 3) (.lst [(.ite (.cmp .Eq (.var 2) (.con (.str "and"))) (.tup [(.con (.str "if")), (.var 5), (.var 6), (.tup [(.con (.str "no"))])]) (.tup [(.con (.str "if")), (.var 5), (.tup [(.con (.str "yes"))]), (.var 6)]))]))] [.asg (.nm 7) (.tup [(.con (.str "or")), (.tup [(.con (.str "and")), (.var 5), (.tup [(.con (.str "not")), (.var 6)])]), (.tup [(.con (.str "and")), (.tup [(.con (.str "not")), (.var 5)]), (.var 6)])]), .asg (.nm 3) (.bin .Add (.var 3) (.lst [(.tup [(.con (.str "if")), (.var 5), (.tup [(.con (.str "not")), (.var 6)]), (.var 6)]), (.var 7)]))]) (oE (.bin w a b) (some (.lst (([Fm.bin w b a] ++ assoc w a b).map Fm.d))) none (some a.d) (some b.d) none none none) st = some (.nx (oE (.bin w a b) (some (.lst ((others (.bin w a b)).map Fm.d))) none (some a.d) (some b.d) o7 none none), st) := by
      generalize hL : [Fm.bin w b a] ++ assoc w a b = L
      have hl : L.length ≤ 2 := by
        rw [← hL, List.length_append, List.length_singleton]
        omega
      match w with
      | 0 =>
        have ho : others (.bin 0 a b) = L ++ [.not (.bin 1 (.not a) (.not b))] ++ [.ite a b .no] := by rw [← hL]; rfl
        refine ⟨none, ?_⟩
        rw [if_t (st1 := st) (by kernel_rfl), ho]
        rw [Ss_nx (asg_ok (bin_ok (x := .lst (L.map Fm.d)) (y := .lst [(Fm.not (.bin 1 (.not a) (.not b))).d]) (st2 := st) (var_ok rfl) (by kernel_rfl) (d_addL (by rw [List.length_map]; simp; omega))) (env1 := oE (.bin 0 a b) (some (.lst (L.map Fm.d ++ [(Fm.not (.bin 1 (.not a) (.not b))).d]))) none (some a.d) (some b.d) none none none) rfl)]
        rw [Ss_nx (asg_ok (bin_ok (x := .lst (L.map Fm.d ++ [(Fm.not (.bin 1 (.not a) (.not b))).d])) (y := .lst [(Fm.ite a b .no).d]) (st2 := st) (var_ok rfl) (by kernel_rfl) (d_addL (by rw [List.length_append, List.length_map]; simp; omega))) (env1 := oE (.bin 0 a b) (some (.lst (L.map Fm.d ++ [(Fm.not (.bin 1 (.not a) (.not b))).d] ++ [(Fm.ite a b .no).d]))) none (some a.d) (some b.d) none none none) rfl), x_Ss0, List.map_append, List.map_append]
        rfl
      | 1 =>
        have ho : others (.bin 1 a b) = L ++ [.not (.bin 0 (.not a) (.not b))] ++ [.ite a .yes b] := by rw [← hL]; rfl
        refine ⟨none, ?_⟩
        rw [if_t (st1 := st) (by kernel_rfl), ho]
        rw [Ss_nx (asg_ok (bin_ok (x := .lst (L.map Fm.d)) (y := .lst [(Fm.not (.bin 0 (.not a) (.not b))).d]) (st2 := st) (var_ok rfl) (by kernel_rfl) (d_addL (by rw [List.length_map]; simp; omega))) (env1 := oE (.bin 1 a b) (some (.lst (L.map Fm.d ++ [(Fm.not (.bin 0 (.not a) (.not b))).d]))) none (some a.d) (some b.d) none none none) rfl)]
        rw [Ss_nx (asg_ok (bin_ok (x := .lst (L.map Fm.d ++ [(Fm.not (.bin 0 (.not a) (.not b))).d])) (y := .lst [(Fm.ite a .yes b).d]) (st2 := st) (var_ok rfl) (by kernel_rfl) (d_addL (by rw [List.length_append, List.length_map]; simp; omega))) (env1 := oE (.bin 1 a b) (some (.lst (L.map Fm.d ++ [(Fm.not (.bin 0 (.not a) (.not b))).d] ++ [(Fm.ite a .yes b).d]))) none (some a.d) (some b.d) none none none) rfl), x_Ss0, List.map_append, List.map_append]
        rfl
      | 2 =>
        have ho : others (.bin 2 a b) = L ++ [.ite a (.not b) b, .bin 1 (.bin 0 a (.not b)) (.bin 0 (.not a) b)] := by rw [← hL]; rfl
        refine ⟨some (Fm.bin 1 (.bin 0 a (.not b)) (.bin 0 (.not a) b)).d, ?_⟩
        rw [if_f (st1 := st) (by kernel_rfl), ho]
        rw [Ss_nx (show evS (cfN tab K) _ _ st = some (.nx (oE (.bin 2 a b) (some (.lst (L.map Fm.d))) none (some a.d) (some b.d) (some (Fm.bin 1 (.bin 0 a (.not b)) (.bin 0 (.not a) b)).d) none none), st) by kernel_rfl)]
        rw [Ss_nx (asg_ok (bin_ok (x := .lst (L.map Fm.d)) (y := .lst [(Fm.ite a (.not b) b).d, (Fm.bin 1 (.bin 0 a (.not b)) (.bin 0 (.not a) b)).d]) (st2 := st) (var_ok rfl) (by kernel_rfl) (d_addL (by rw [List.length_map]; simp; omega))) (env1 := oE (.bin 2 a b) (some (.lst (L.map Fm.d ++ [(Fm.ite a (.not b) b).d, (Fm.bin 1 (.bin 0 a (.not b)) (.bin 0 (.not a) b)).d]))) none (some a.d) (some b.d) (some (Fm.bin 1 (.bin 0 a (.not b)) (.bin 0 (.not a) b)).d) none none) rfl), x_Ss0, List.map_append]
        rfl
    obtain ⟨o7, s4⟩ := s4
    obtain ⟨g, st', e, l, h'⟩ := pick_ok (K := K) (by omega) (.bin w a b) h (cf := .var 3) (env := oE (.bin w a b) (some (.lst ((others (.bin w a b)).map Fm.d))) none (some a.d) (some b.d) o7 none none) rfl (var_ok rfl)
    refine go ⟨g, st', ?_, l, h'⟩
    show evSs (cfN tab K) [_, _, _, _, _, _] _ _ = _
    rw [Ss_nx (nf t0)]
    refine Ss_rt ((if_t t1).trans ?_)
    rw [Ss_nx s1, Ss_nx s2, Ss_nx s3, Ss_nx s4]
    exact Ss_rt e
  | ite a b c =>
    have s1 : evS (cfN tab K) (.asg (.tup [5, 6, 8]) (.sl (.var 1) (some (.con (.int 1))) none)) (oE (.ite a b c) none none none none none none none) st = some (.nx (oE (.ite a b c) none none (some a.d) (some b.d) none (some c.d) none), st) := by kernel_rfl
    have s2 : evS (cfN tab K) (.asg (.nm 3) (.lst [(.tup [(.con (.str "or")), (.tup [(.con (.str "and")), (.var 5), (.var 6)]), (.tup [(.con (.str "and")), (.tup [(.con (.str "not")), (.var 5)]), (.var 8)])]), (.tup [(.con (.str "if")), (.tup [(.con (.str "not")), (.var 5)]), (.var 8), (.var 6)])])) (oE (.ite a b c) none none (some a.d) (some b.d) none (some c.d) none) st = some (.nx (oE (.ite a b c) (some (.lst ((others (.ite a b c)).map Fm.d))) none (some a.d) (some b.d) none (some c.d) none), st) := by kernel_rfl
    obtain ⟨g, st', e, l, h'⟩ := pick_ok (K := K) (by omega) (.ite a b c) h (cf := .var 3) (env := oE (.ite a b c) (some (.lst ((others (.ite a b c)).map Fm.d))) none (some a.d) (some b.d) none (some c.d) none) rfl (var_ok rfl)
    refine go ⟨g, st', ?_, l, h'⟩
    show evSs (cfN tab K) [_, _, _, _, _, _] _ _ = _
    rw [Ss_nx (nf (by kernel_rfl)), Ss_nx (nf (by kernel_rfl))]
    refine Ss_rt ((if_t (st1 := st) (by kernel_rfl)).trans ?_)
    rw [Ss_nx s1, Ss_nx s2]
    exact Ss_rt e
  | qu w s a =>
    simp only [Fm.deep] at hd hK
    have lc := sides_lc (K := K) (st := st) (i := 2) (j := 1) (env := oE (.qu w s a) none none none none none none none) (a := a) (s := s) (fun x hx => hf x (by simp [Fm.names, hx])) (hf s (by simp [Fm.names])) (by omega) (by omega) fun d => ⟨oE (.qu w s a) none none none none none none (some d), by cases w <;> rfl, by cases w <;> kernel_rfl, by cases w <;> kernel_rfl, rfl⟩
    have t0 : evE (cfN tab K) ((.cmp .Eq (.var 2) (.con (.str "not")))) (oE (.qu w s a) none none none none none none none) st = some (.bl false, st) := by cases w <;> kernel_rfl
    have t1 : evE (cfN tab K) ((.cmp .In (.var 2) (.tup [(.con (.str "and")), (.con (.str "or")), (.con (.str "xor"))]))) (oE (.qu w s a) none none none none none none none) st = some (.bl false, st) := by cases w <;> kernel_rfl
    have t2 : evE (cfN tab K) ((.cmp .Eq (.var 2) (.con (.str "if")))) (oE (.qu w s a) none none none none none none none) st = some (.bl false, st) := by cases w <;> kernel_rfl
    have t3 : evE (cfN tab K) ((.cmp .In (.var 2) (.tup [(.con (.str "some")), (.con (.str "all"))]))) (oE (.qu w s a) none none none none none none none) st = some (.bl true, st) := by cases w <;> kernel_rfl
    refine go ⟨.bin (if w then 1 else 0) (putIn s true a) (putIn s false a), st, ?_, others_like _ (by cases w <;> exact List.mem_singleton.mpr rfl), h⟩
    show evSs (cfN tab K) [_, _, _, _, _, _] _ _ = _
    rw [Ss_nx (nf t0), Ss_nx (nf t1), Ss_nx (nf t2)]
    refine Ss_rt ((if_t t3).trans ?_)
    rw [Ss_nx (asg_ok lc (env1 := oE (.qu w s a) none (some (.lst [(putIn s true a).d, (putIn s false a).d])) none none none none none) (by cases w <;> rfl))]
    refine Ss_rt ?_
    cases w <;> kernel_rfl
  | put s a b =>
    simp only [Fm.deep] at hd hK
    have lc := sides_lc (K := K) (st := st) (i := 3) (j := 1) (env := oE (.put s a b) none none none none none none none) (a := b) (s := s) (fun x hx => hf x (by simp [Fm.names, hx])) (hf s (by simp [Fm.names])) (by omega) (by omega) fun d => ⟨oE (.put s a b) none none none none none none (some d), rfl, by kernel_rfl, by kernel_rfl, rfl⟩
    refine go ⟨.ite a (putIn s true b) (putIn s false b), st, ?_, others_like _ (List.mem_singleton.mpr rfl), h⟩
    show evSs (cfN tab K) [_, _, _, _, _, _] _ _ = _
    rw [Ss_nx (nf (by kernel_rfl)), Ss_nx (nf (by kernel_rfl)), Ss_nx (nf (by kernel_rfl)), Ss_nx (nf (by kernel_rfl))]
    refine Ss_rt ((if_t (st1 := st) (by kernel_rfl)).trans ?_)
    rw [Ss_nx (asg_ok lc (env1 := oE (.put s a b) none (some (.lst [(putIn s true b).d, (putIn s false b).d])) none none none none none) rfl)]
    exact Ss_rt (by kernel_rfl)
end
end Kw

set_option Elab.async false
set_option linter.all false
set_option maxRecDepth 100000
set_option maxHeartbeats 1000000
/-! Law k08: a part turned, names called otherwise, what a formula hangs on, where two differ. -/
namespace Kw
open PySem
section
variable {K : Nat} {st : Store} {ns : List Int} {rest : Store}
/-- .. all items, told by another list -/
theorem x_lcm {α : Type} {cf : CF} {elt : E} {g : G} {it : It} {own : List Nat} {env : Env} {l : List α} {a b : α → D} (hi : evI cf it env st = some (l.map a, st)) (hl : l.length ≤ LIM) (he : ∀ x ∈ l, ∃ env1, asgG g (a x) (wipeD env own) = some env1 ∧ evE cf elt env1 st = some (b x, st)) :
    evE cf (.lc false elt g it none own) env st = some (.lst (l.map b), st) := by
  have go : ∀ l : List α, (∀ x ∈ l, ∃ env1, asgG g (a x) (wipeD env own) = some env1 ∧ evE cf elt env1 st = some (b x, st)) → evLc (lcF (evC cf none) (evE cf elt) g own env) (l.map a) st = some (l.map b, st) := by
    intro l
    induction l with
    | nil => intro _; rfl
    | cons x l ih =>
      intro h
      obtain ⟨env1, e1, e2⟩ := h x List.mem_cons_self
      rw [List.map_cons, evLc, lcF_no e1, x_C0, R.bind_some, if_pos rfl, e2, R.bind_some, R.bind_some, ih fun y hy => h y (List.mem_cons_of_mem _ hy)]
      rfl
  rw [x_lc, hi, R.bind_some, go l he, R.bind_some]
  exact if_pos (by rw [List.length_map]; exact hl)
theorem x_lcg {α : Type} {cf : CF} {elt c : E} {g : G} {it : It} {own : List Nat} {env : Env} {l : List α} {a b : α → D} {p : α → Bool} (hi : evI cf it env st = some (l.map a, st)) (hl : l.length ≤ LIM) (he : ∀ x ∈ l, ∃ env1 y, asgG g (a x) (wipeD env own) = some env1 ∧ evE cf c env1 st = some (y, st) ∧ y.truth = some (p x) ∧ (p x = true → evE cf elt env1 st = some (b x, st))) :
    evE cf (.lc false elt g it (some c) own) env st = some (.lst ((l.filter p).map b), st) := by
  have go : ∀ l : List α, (∀ x ∈ l, ∃ env1 y, asgG g (a x) (wipeD env own) = some env1 ∧ evE cf c env1 st = some (y, st) ∧ y.truth = some (p x) ∧ (p x = true → evE cf elt env1 st = some (b x, st))) → evLc (lcF (evC cf (some c)) (evE cf elt) g own env) (l.map a) st = some ((l.filter p).map b, st) := by
    intro l
    induction l with
    | nil => intro _; rfl
    | cons x l ih =>
      intro h
      obtain ⟨env1, y, e1, e2, e3, e4⟩ := h x List.mem_cons_self
      have i := ih fun y hy => h y (List.mem_cons_of_mem _ hy)
      rw [List.map_cons, evLc, lcF_no e1, x_C1, e2, R.bind_some, e3, Option.map_some, R.bind_some, List.filter_cons]
      cases q : p x with
      | true =>
        rw [if_pos rfl, e4 q, R.bind_some, R.bind_some, i, if_pos rfl]
        rfl
      | false =>
        rw [if_neg Bool.false_ne_true, R.bind_some, i, if_neg Bool.false_ne_true]
        rfl
  rw [x_lc, hi, R.bind_some, go l he, R.bind_some]
  exact if_pos (by rw [List.length_map]; exact Nat.le_trans (List.length_filter_le _ _) hl)
theorem atI_nat {ds : List D} {j : Nat} {d : D} (h : ds[j]? = some d) : L2.atI ds (j : Int) = some d := by
  have hl : j < ds.length := by
    by_cases q : j < ds.length
    · exact q
    · rw [List.getElem?_eq_none (by omega)] at h
      cases h
  unfold L2.atI
  rw [ixN_nat' hl]
  exact h
theorem setP_d : ∀ (f : Fm) (i : Nat) (p g : Fm), f.parts[i]? = some p → ∃ xs, f.d = .tup xs ∧ xs.length = 1 + f.tl.length + f.parts.length ∧ xs[1 + f.tl.length + i]? = some p.d ∧ (f.setP i g).d = .tup (xs.take (1 + f.tl.length + i) ++ [g.d] ++ xs.drop (1 + f.tl.length + i + 1))
  | .not a, 0, p, g, e => by cases e; exact ⟨_, rfl, rfl, rfl, rfl⟩
  | .bin w a b, 0, p, g, e => by cases e; exact ⟨_, rfl, rfl, rfl, rfl⟩
  | .bin w a b, 1, p, g, e => by cases e; exact ⟨_, rfl, rfl, rfl, rfl⟩
  | .ite a b c, 0, p, g, e => by cases e; exact ⟨_, rfl, rfl, rfl, rfl⟩
  | .ite a b c, 1, p, g, e => by cases e; exact ⟨_, rfl, rfl, rfl, rfl⟩
  | .ite a b c, 2, p, g, e => by cases e; exact ⟨_, rfl, rfl, rfl, rfl⟩
  | .qu w s a, 0, p, g, e => by cases e; exact ⟨_, rfl, rfl, rfl, rfl⟩
  | .put s a b, 0, p, g, e => by cases e; exact ⟨_, rfl, rfl, rfl, rfl⟩
  | .put s a b, 1, p, g, e => by cases e; exact ⟨_, rfl, rfl, rfl, rfl⟩
  | .yes, _, _, _, e => by cases e
  | .no, _, _, _, e => by cases e
  | .nm _, _, _, _, e => by cases e
  | .not _, _ + 1, _, _, e => by cases e
  | .qu _ _ _, _ + 1, _, _, e => by cases e
  | .bin _ _ _, _ + 2, _, _, e => by cases e
  | .put _ _ _, _ + 2, _, _, e => by cases e
  | .ite _ _ _, _ + 3, _, _, e => by cases e
theorem turned_ok : ∀ (n : Nat) (f : Fm), f.deep ≤ n → n ≤ 40 → (∀ x ∈ f.names, Nm x) → ∀ K, n + 7 ≤ K → ∀ st, Sx ns rest st → ∃ g st', cfN tab K F_law_turned [.ref 1, f.d] st = some (g.d, st') ∧ Like f g ∧ Sx ns rest st' := by
  intro n
  induction n using Nat.strongRecOn with
  | _ n ih =>
    intro f hf hn hm K hK st h
    obtain ⟨K, rfl⟩ : ∃ j, K = j + 1 := ⟨K - 1, by omega⟩
    have go : ∀ g st', evSs (cfN tab K) ir_law_turned.body [some (.ref 1), some f.d, none, none] st = some (.rt g.d, st') → Like f g → Sx ns rest st' → ∃ g st', cfN tab (K + 1) F_law_turned [.ref 1, f.d] st = some (g.d, st') ∧ Like f g ∧ Sx ns rest st' := by
      intro g st' e l h'
      obtain ⟨st2, e2, h2⟩ := run_x0 (k := K) (f := ir_law_turned) (i := F_law_turned) (ds := [.ref 1, f.d]) h rfl rfl e (fm_clean g) h'
      exact ⟨g, st2, e2, l, h2⟩
    have s0 : evS (cfN tab K) (.asg (.nm 2) (.call F_law_own [(.var 1)])) [some (.ref 1), some f.d, none, none] st = some (.nx [some (.ref 1), some f.d, some (.lst (f.parts.map Fm.d)), none], st) := by
      obtain ⟨K, rfl⟩ : ∃ j, K = j + 1 := ⟨K - 1, by omega⟩
      exact asg_ok (call_ok (ds := [f.d]) (by rw [x_Es1, var_ok (d := f.d) rfl, R.bind_some, x_Es0]; rfl) (lown_ok f)) rfl
    have hP : Pls 60 (f.parts.map Fm.d) := .of fun d hd => by
      obtain ⟨p, hp, rfl⟩ := List.mem_map.mp hd
      have e1 := part_deep hp
      exact (pl_fm p fun x hx => hm x (part_names hp hx)).up (by omega)
    have c0 : evE (cfN tab K) (.cmp .Eq (.var 2) (.lst [])) [some (.ref 1), some f.d, some (.lst (f.parts.map Fm.d)), none] st = some (.bl f.parts.isEmpty, st) := by
      rw [cmp_ok (var_ok rfl) (y := .lst []) (st2 := st) ev_lst0 (cmp_nil hP (by omega))]
      cases f.parts <;> rfl
    have other : ∀ st1, Sx ns rest st1 → evE (cfN tab K) ((.or [(.cmp .Eq (.var 2) (.lst [])), (.cmp .Eq (.call F_law_draw [(.var 0), (.con (.int 3))]) (.con (.int 0)))])) [some (.ref 1), some f.d, some (.lst (f.parts.map Fm.d)), none] st = some (.bl true, st1) → ∃ g st', cfN tab (K + 1) F_law_turned [.ref 1, f.d] st = some (g.d, st') ∧ Like f g ∧ Sx ns rest st' := by
      intro st1 h1 c
      obtain ⟨g, st2, e2, l, h2⟩ := other_ok (K := K) f hm (by omega) (by omega) h1
      refine go g st2 ?_ l h2
      show evSs (cfN tab K) (_ :: _ :: _) _ st = _
      rw [Ss_nx s0]
      refine Ss_rt ((if_t c).trans (Ss_rt (ret_ok (call_ok (ds := [.ref 1, f.d]) ?_ e2))))
      rw [x_Es1, var_ok (d := .ref 1) rfl, R.bind_some, x_Es1, var_ok (d := f.d) rfl, R.bind_some, x_Es0]
      rfl
    cases hp : f.parts with
    | nil =>
      refine other st h ?_
      rw [x_or, evOr, c0, R.bind_some, hp]
      rfl
    | cons p ps =>
      obtain ⟨r, st1, e1, r0, r1, h1⟩ := draw_ge (K := K) (by omega) (many := 3) (by decide) (by decide) h
      have c1 : evE (cfN tab K) ((.or [(.cmp .Eq (.var 2) (.lst [])), (.cmp .Eq (.call F_law_draw [(.var 0), (.con (.int 3))]) (.con (.int 0)))])) [some (.ref 1), some f.d, some (.lst (f.parts.map Fm.d)), none] st = some (.bl (decide (r = 0)), st1) := by
        rw [x_or, evOr, c0, R.bind_some, hp]
        show evOr (cfN tab K) [_] _ st = _
        rw [x_or1]
        refine cmp_ok (x := .int r) (y := .int 0) (call_ok (ds := [.ref 1, .int 3]) ?_ e1) x_con cmp_ii
        rw [x_Es1, var_ok (d := .ref 1) rfl, R.bind_some, x_Es1, x_con, R.bind_some, x_Es0]
        rfl
      by_cases hr : r = 0
      · rw [decide_eq_true hr] at c1
        exact other st1 h1 c1
      · rw [decide_eq_false hr] at c1
        have pl := parts3 f
        have hl0 : 0 < f.parts.length := by rw [hp]; simp
        obtain ⟨q, st2, e2, q0, q1, h2⟩ := draw_ge (K := K) (by omega) (many := (f.parts.length : Int)) (by omega) (by omega) h1
        obtain ⟨i, rfl⟩ : ∃ j : Nat, q = j := ⟨q.toNat, by omega⟩
        have hi : i < f.parts.length := by omega
        have hpi : f.parts[i]? = some f.parts[i] := List.getElem?_eq_getElem hi
        have hmem : f.parts[i] ∈ f.parts := List.getElem_mem hi
        have pd := part_deep hmem
        obtain ⟨g, st3, e3, l, h3⟩ := ih f.parts[i].deep (by omega) f.parts[i] (Nat.le_refl _) (by omega) (fun x hx => hm x (part_names hmem hx)) K (by omega) st2 h2
        obtain ⟨xs, x1, x2, x3, x4⟩ := setP_d f i f.parts[i] g hpi
        have tlen : f.tl.length ≤ 1 := by cases f <;> simp [Fm.tl]
        refine go (f.setP i g) st3 ?_ (setP_like f i hpi l) h3
        have s2 : evS (cfN tab K) (.asg (.nm 3) (.bin .Add (.bin .Sub (.bi .len [(.var 1)]) (.bi .len [(.var 2)])) (.call F_law_draw [(.var 0), (.bi .len [(.var 2)])]))) [some (.ref 1), some f.d, some (.lst (f.parts.map Fm.d)), none] st1 = some (.nx [some (.ref 1), some f.d, some (.lst (f.parts.map Fm.d)), some (.int ((1 + f.tl.length + i : Nat) : Int))], st2) := by
          refine asg_ok (x := .int ((1 + f.tl.length + i : Nat) : Int)) ?_ rfl
          have b1 : evE (cfN tab K) (.bin .Sub (.bi .len [(.var 1)]) (.bi .len [(.var 2)])) [some (.ref 1), some f.d, some (.lst (f.parts.map Fm.d)), none] st1 = some (.int ((1 + f.tl.length : Nat) : Int), st1) := by
            have l1 : biD .len [f.d] st1 = some (.int xs.length, st1) := by rw [x1]; rfl
            have l2 : biD .len [.lst (f.parts.map Fm.d)] st1 = some (.int f.parts.length, st1) := by rw [bi_len, List.length_map]
            refine bin_ok (bi1_ok (var_ok rfl) l1) (bi1_ok (var_ok rfl) l2) ?_
            rw [rd'_int, rd'_int, d_sub, x2]
            rw [show ((1 + f.tl.length + f.parts.length : Nat) : Int) - (f.parts.length : Int) = ((1 + f.tl.length : Nat) : Int) by omega]
          have b2 : evE (cfN tab K) (.call F_law_draw [(.var 0), (.bi .len [(.var 2)])]) [some (.ref 1), some f.d, some (.lst (f.parts.map Fm.d)), none] st1 = some (.int (i : Int), st2) := by
            have l2 : biD .len [.lst (f.parts.map Fm.d)] st1 = some (.int f.parts.length, st1) := by rw [bi_len, List.length_map]
            refine call_ok (ds := [.ref 1, .int f.parts.length]) ?_ e2
            rw [x_Es1, var_ok (d := .ref 1) rfl, R.bind_some, x_Es1, bi1_ok (var_ok rfl) l2, R.bind_some, x_Es0]
            rfl
          refine bin_ok b1 b2 ?_
          rw [rd'_int, rd'_int, d_add]
          rw [show ((1 + f.tl.length : Nat) : Int) + (i : Int) = ((1 + f.tl.length + i : Nat) : Int) by omega]
        have at1 : 1 + f.tl.length + i + 1 ≤ xs.length := by omega
        generalize hat : 1 + f.tl.length + i = at' at *
        have s3 : evS (cfN tab K) (.ret (.bin .Add (.bin .Add (.sl (.var 1) none (some (.var 3))) (.tup [(.call F_law_turned [(.var 0), (.ix (.var 1) (.var 3))])])) (.sl (.var 1) (some (.bin .Add (.var 3) (.con (.int 1)))) none))) [some (.ref 1), some f.d, some (.lst (f.parts.map Fm.d)), some (.int (at' : Int))] st2 = some (.rt (f.setP i g).d, st3) := by
          refine ret_ok ?_
          have b1 : evE (cfN tab K) (.sl (.var 1) none (some (.var 3))) [some (.ref 1), some f.d, some (.lst (f.parts.map Fm.d)), some (.int (at' : Int))] st2 = some (.tup (xs.take at'), st2) := by
            rw [x1, x_sl, var_ok (d := .tup xs) rfl, R.bind_some, x_O0, R.bind_some, x_O1, var_ok (d := .int (at' : Int)) rfl, R.bind_some]
            show Option.map (fun z => (z, st2)) (slD (.tup xs) none (some (at' : Int))) = _
            rw [sl_take (by omega)]
            rfl
          have b2 : evE (cfN tab K) (.tup [(.call F_law_turned [(.var 0), (.ix (.var 1) (.var 3))])]) [some (.ref 1), some f.d, some (.lst (f.parts.map Fm.d)), some (.int (at' : Int))] st2 = some (.tup [g.d], st3) := by
            have b3 : evE (cfN tab K) (.ix (.var 1) (.var 3)) [some (.ref 1), some f.d, some (.lst (f.parts.map Fm.d)), some (.int (at' : Int))] st2 = some ((f.parts[i]).d, st2) := by
              rw [x_ix, var_ok (d := f.d) rfl, R.bind_some, var_ok (d := .int (at' : Int)) rfl, R.bind_some, x1]
              show Option.map _ (L2.atI xs (at' : Int)) = _
              rw [atI_nat x3]
              rfl
            rw [x_tup, x_Es1, call_ok (ds := [.ref 1, (f.parts[i]).d]) (by rw [x_Es1, var_ok (d := .ref 1) rfl, R.bind_some, x_Es1, b3, R.bind_some, x_Es0]; rfl) e3, R.bind_some, x_Es0]
            rfl
          have b4 : evE (cfN tab K) (.sl (.var 1) (some (.bin .Add (.var 3) (.con (.int 1)))) none) [some (.ref 1), some f.d, some (.lst (f.parts.map Fm.d)), some (.int (at' : Int))] st3 = some (.tup (xs.drop (at' + 1)), st3) := by
            have b5 : evE (cfN tab K) (.bin .Add (.var 3) (.con (.int 1))) [some (.ref 1), some f.d, some (.lst (f.parts.map Fm.d)), some (.int (at' : Int))] st3 = some (.int ((at' + 1 : Nat) : Int), st3) := bin_ok (var_ok rfl) x_con rfl
            rw [x1] at b5 ⊢
            rw [x_sl, var_ok (d := .tup xs) rfl, R.bind_some, x_O1, b5, R.bind_some]
            show R.bind (some (some ((at' + 1 : Nat) : Int), st3)) _ = _
            rw [R.bind_some, x_O0, R.bind_some]
            show Option.map (fun z => (z, st3)) (slD (.tup xs) (some ((at' + 1 : Nat) : Int)) none) = _
            rw [sl_drop at1]
            rfl
          rw [x4]
          refine bin_ok (bin_ok b1 b2 (z := .tup (xs.take at' ++ [g.d])) ?_) b4 ?_
          · rw [rd'_tup, rd'_tup, d_addT (by rw [List.length_take]; simp; omega)]
          · rw [rd'_tup, rd'_tup, d_addT (by rw [List.length_append, List.length_take, List.length_drop]; simp; omega)]
        show evSs (cfN tab K) [_, _, _, _] _ st = _
        rw [Ss_nx s0, Ss_nx ((if_f c1).trans x_Ss0), Ss_nx s2]
        exact Ss_rt s3
/-! ### names called otherwise -/
def kE (f : Fm) (l : Nat) (o2 o3 o4 : Option D) : Env := [some f.d, some (.ref l), o2, o3, o4]
theorem called_ok {σ : Str → Str} {l : Nat} {kvs : List (L2.Key × D)} {L : List Str} (hk : ∀ s ∈ L, lookK kvs (.inr s) = some (.str (σ s))) (hL : ∀ s ∈ L, Nm s) (hl : st[l]? = some (.dK kvs)) : ∀ (f : Fm), (∀ x ∈ f.names, x ∈ L) → ∀ K, f.deep + 2 ≤ K → cfN tab K F_law_called [f.d, .ref l] st = some ((f.ren σ).d, st) := by
  have look : ∀ s ∈ L, ixD st (.ref l) (.str s) = some (.str (σ s)) := fun s hs => by
    simp only [ixD, hl, D.key, hk s hs]
  have step : ∀ (f : Fm) (K : Nat), (∀ s, f ≠ .nm s) → (∀ x ∈ f.names, x ∈ L) → (∀ p ∈ f.parts, cfN tab (K + 1) F_law_called [p.d, .ref l] st = some ((p.ren σ).d, st)) → cfN tab (K + 2) F_law_called [f.d, .ref l] st = some ((f.ren σ).d, st) := by
    intro f K hn hm hp
    refine run_rt rfl rfl ?_
    have c0 : evE (cfN tab (K + 1)) ((.cmp .Eq (.ix (.var 0) (.con (.int 0))) (.con (.str "name")))) (kE f l none none none) st = some (.bl false, st) := by
      cases f with
      | nm s => exact absurd rfl (hn s)
      | bin w a b =>
        match w with
        | 0 => kernel_rfl
        | 1 => kernel_rfl
        | 2 => kernel_rfl
      | qu w s a => cases w <;> kernel_rfl
      | _ => kernel_rfl
    have hi : evI (cfN tab (K + 1)) (.seq (.call F_law_own [(.var 0)])) (kE f l none none none) st = some (f.parts.map Fm.d, st) := by
      rw [x_seq, call_ok (ds := [f.d]) (by rw [x_Es1, var_ok (d := f.d) rfl, R.bind_some, x_Es0]; rfl) (lown_ok f)]
      rfl
    have s1 : evS (cfN tab (K + 1)) (.asg (.nm 2) (.lc false (.call F_law_called [(.var 4), (.var 1)]) (.nm 4) (.seq (.call F_law_own [(.var 0)])) none [4])) (kE f l none none none) st = some (.nx (kE f l (some (.lst (f.parts.map fun p => (p.ren σ).d))) none none), st) := by
      refine asg_ok (x_lcm (a := Fm.d) (b := fun p => (p.ren σ).d) hi (lim10 (by have := parts3 f; omega)) fun p hpp => ⟨kE f l none none (some p.d), rfl, call_ok (ds := [p.d, .ref l]) ?_ (hp p hpp)⟩) rfl
      rw [x_Es1, var_ok (d := p.d) rfl, R.bind_some, x_Es1, var_ok (d := .ref l) rfl, R.bind_some, x_Es0]
      rfl
    generalize hps : f.parts.map (fun p => (p.ren σ).d) = ps at *
    have hpl : ps.length ≤ 3 := by rw [← hps, List.length_map]; exact parts3 f
    have fin : ∀ tl : List D, tl.length ≤ 3 → evE (cfN tab (K + 1)) ((.ite (.cmp .In (.ix (.var 0) (.con (.int 0))) (.tup [(.con (.str "some")), (.con (.str "all")), (.con (.str "put"))])) (.tup [(.ix (.var 0) (.con (.int 0))), (.ix (.var 1) (.ix (.var 0) (.con (.int 1))))]) (.sl (.var 0) none (some (.con (.int 1)))))) (kE f l (some (.lst ps)) none none) st = some (.tup (.str f.word :: tl), st) → (f.ren σ).d = .tup (.str f.word :: (tl ++ ps)) → evSs (cfN tab (K + 1)) ir_law_called.body (kE f l none none none) st = some (.rt (f.ren σ).d, st) := by
      intro tl ht e hd
      show evSs (cfN tab (K + 1)) [_, _, _, _] _ st = _
      rw [Ss_nx ((if_f c0).trans x_Ss0), Ss_nx s1, Ss_nx (asg_ok e (env1 := kE f l (some (.lst ps)) (some (.tup (.str f.word :: tl))) none) rfl)]
      refine Ss_rt (ret_ok (bin_ok (var_ok rfl) (y := .tup ps) (bi1_ok (var_ok rfl) rfl) ?_))
      rw [rd'_tup, rd'_tup, d_addT (by simp; omega), hd]
      rfl
    cases f with
    | nm s => exact absurd rfl (hn s)
    | yes => exact fin [] (by simp) (by kernel_rfl) (by rw [← hps]; rfl)
    | no => exact fin [] (by simp) (by kernel_rfl) (by rw [← hps]; rfl)
    | not a => exact fin [] (by simp) (by kernel_rfl) (by rw [← hps]; rfl)
    | bin w a b =>
      match w with
      | 0 => exact fin [] (by simp) (by kernel_rfl) (by rw [← hps]; rfl)
      | 1 => exact fin [] (by simp) (by kernel_rfl) (by rw [← hps]; rfl)
      | 2 => exact fin [] (by simp) (by kernel_rfl) (by rw [← hps]; rfl)
    | ite a b c => exact fin [] (by simp) (by kernel_rfl) (by rw [← hps]; rfl)
    | qu w s a =>
      have hs := look s (hm s (by simp [Fm.names]))
      refine fin [.str (σ s)] (by simp) ?_ (by rw [← hps]; cases w <;> rfl)
      have t : evE (cfN tab (K + 1)) ((.cmp .In (.ix (.var 0) (.con (.int 0))) (.tup [(.con (.str "some")), (.con (.str "all")), (.con (.str "put"))]))) (kE (.qu w s a) l (some (.lst ps)) none none) st = some (.bl true, st) := by cases w <;> kernel_rfl
      have i0 : evE (cfN tab (K + 1)) (.ix (.var 0) (.con (.int 0))) (kE (.qu w s a) l (some (.lst ps)) none none) st = some (.str (Fm.qu w s a).word, st) := by cases w <;> kernel_rfl
      have i1 : evE (cfN tab (K + 1)) (.ix (.var 0) (.con (.int 1))) (kE (.qu w s a) l (some (.lst ps)) none none) st = some (.str s, st) := by cases w <;> kernel_rfl
      rw [x_ite, t, R.bind_some, t_bl]
      show evE _ (.tup [_, _]) _ st = _
      rw [x_tup, x_Es1, i0, R.bind_some, x_Es1, x_ix, var_ok (d := .ref l) rfl, R.bind_some, i1, R.bind_some, hs]
      show R.bind (R.bind (R.bind (some (D.str (σ s), st)) _) _) _ = _
      rw [R.bind_some, x_Es0]
      rfl
    | put s a b =>
      have hs := look s (hm s (by simp [Fm.names]))
      refine fin [.str (σ s)] (by simp) ?_ (by rw [← hps]; rfl)
      have t : evE (cfN tab (K + 1)) ((.cmp .In (.ix (.var 0) (.con (.int 0))) (.tup [(.con (.str "some")), (.con (.str "all")), (.con (.str "put"))]))) (kE (.put s a b) l (some (.lst ps)) none none) st = some (.bl true, st) := by kernel_rfl
      have i0 : evE (cfN tab (K + 1)) (.ix (.var 0) (.con (.int 0))) (kE (.put s a b) l (some (.lst ps)) none none) st = some (.str (Fm.put s a b).word, st) := by kernel_rfl
      have i1 : evE (cfN tab (K + 1)) (.ix (.var 0) (.con (.int 1))) (kE (.put s a b) l (some (.lst ps)) none none) st = some (.str s, st) := by kernel_rfl
      rw [x_ite, t, R.bind_some, t_bl]
      show evE _ (.tup [_, _]) _ st = _
      rw [x_tup, x_Es1, i0, R.bind_some, x_Es1, x_ix, var_ok (d := .ref l) rfl, R.bind_some, i1, R.bind_some, hs]
      show R.bind (R.bind (R.bind (some (D.str (σ s), st)) _) _) _ = _
      rw [R.bind_some, x_Es0]
      rfl
  intro f
  induction f with
  | nm s =>
    intro hm K hK
    obtain ⟨K, rfl⟩ : ∃ j, K = j + 1 := ⟨K - 1, by omega⟩
    have hs := look s (hm s (by simp [Fm.names]))
    refine run_rt rfl rfl ?_
    show evSs (cfN tab K) (_ :: _) (kE (.nm s) l none none none) st = _
    have i1 : evE (cfN tab K) (.ix (.var 0) (.con (.int 1))) (kE (.nm s) l none none none) st = some (.str s, st) := by kernel_rfl
    refine Ss_rt ((if_t (st1 := st) (by kernel_rfl)).trans (Ss_rt (ret_ok ?_)))
    rw [x_tup, x_Es1, x_con, R.bind_some, x_Es1, x_ix, var_ok (d := .ref l) rfl, R.bind_some, i1, R.bind_some, hs]
    show R.bind (R.bind (R.bind (some (D.str (σ s), st)) _) _) _ = _
    rw [R.bind_some, x_Es0]
    rfl
  | yes =>
    intro hm K hK
    obtain ⟨K, rfl⟩ : ∃ j, K = j + 2 := ⟨K - 2, by omega⟩
    exact step _ K (fun s h => by cases h) hm fun p hp => by cases hp
  | no =>
    intro hm K hK
    obtain ⟨K, rfl⟩ : ∃ j, K = j + 2 := ⟨K - 2, by omega⟩
    exact step _ K (fun s h => by cases h) hm fun p hp => by cases hp
  | not a ih =>
    intro hm K hK
    obtain ⟨K, rfl⟩ : ∃ j, K = j + 2 := ⟨K - 2, by omega⟩
    simp only [Fm.deep] at hK
    refine step _ K (fun s h => by cases h) hm fun p hp => ?_
    rw [List.mem_singleton.mp hp]
    exact ih hm (K + 1) (by omega)
  | bin w a b iha ihb =>
    intro hm K hK
    obtain ⟨K, rfl⟩ : ∃ j, K = j + 2 := ⟨K - 2, by omega⟩
    simp only [Fm.deep] at hK
    refine step _ K (fun s h => by cases h) hm fun p hp => ?_
    simp only [Fm.parts, List.mem_cons, List.not_mem_nil, or_false] at hp
    rcases hp with rfl | rfl
    · exact iha (fun x hx => hm x (by simp [Fm.names, hx])) (K + 1) (by omega)
    · exact ihb (fun x hx => hm x (by simp [Fm.names, hx])) (K + 1) (by omega)
  | ite a b c iha ihb ihc =>
    intro hm K hK
    obtain ⟨K, rfl⟩ : ∃ j, K = j + 2 := ⟨K - 2, by omega⟩
    simp only [Fm.deep] at hK
    refine step _ K (fun s h => by cases h) hm fun p hp => ?_
    simp only [Fm.parts, List.mem_cons, List.not_mem_nil, or_false] at hp
    rcases hp with rfl | rfl | rfl
    · exact iha (fun x hx => hm x (by simp [Fm.names, hx])) (K + 1) (by omega)
    · exact ihb (fun x hx => hm x (by simp [Fm.names, hx])) (K + 1) (by omega)
    · exact ihc (fun x hx => hm x (by simp [Fm.names, hx])) (K + 1) (by omega)
  | qu w s a ih =>
    intro hm K hK
    obtain ⟨K, rfl⟩ : ∃ j, K = j + 2 := ⟨K - 2, by omega⟩
    simp only [Fm.deep] at hK
    refine step _ K (fun s h => by cases h) hm fun p hp => ?_
    rw [List.mem_singleton.mp hp]
    exact ih (fun x hx => hm x (by simp [Fm.names, hx])) (K + 1) (by omega)
  | put s a b iha ihb =>
    intro hm K hK
    obtain ⟨K, rfl⟩ : ∃ j, K = j + 2 := ⟨K - 2, by omega⟩
    simp only [Fm.deep] at hK
    refine step _ K (fun s h => by cases h) hm fun p hp => ?_
    simp only [Fm.parts, List.mem_cons, List.not_mem_nil, or_false] at hp
    rcases hp with rfl | rfl
    · exact iha (fun x hx => hm x (by simp [Fm.names, hx])) (K + 1) (by omega)
    · exact ihb (fun x hx => hm x (by simp [Fm.names, hx])) (K + 1) (by omega)
end
end Kw

set_option Elab.async false
set_option linter.all false
set_option maxRecDepth 100000
set_option maxHeartbeats 1000000
/-! Law k08: what a formula hangs on, where two differ. -/
namespace Kw
open PySem
section
variable {k : Nat} {st : Store}
theorem lrows_okL {L : List Str} (ho : OrdOk L) : cfN tab (k + 1) F_law_rows [nmD L] st = some (.lst ((srtR (subsL (srt L))).map rowD), st) := by
  refine run_rt rfl rfl ?_
  have hs := sort_strs (ss := L) ho.ok (lim10 (by have := ho.len; omega))
  rw [srt_map] at hs
  have h10 := pw10 ho.len
  obtain ⟨o2, hl⟩ := rows_loop (st := st) (cf := cfN tab k) (o0 := some (nmD L)) (o3 := none) (o4 := none) (o5 := none) (srt L) [[]] none (by rw [srt_len]; simpa using h10) (fun r hr => by rw [List.mem_singleton.mp hr, srt_len]; have := ho.len; simp; omega)
  have s1 : evS (cfN tab k) (.asg (.nm 1) (.lst [(.tup [])])) [some (nmD L), none, none, none, none, none] st = some (.nx [some (nmD L), some (.lst [.tup []]), none, none, none, none], st) := by
    simp only [x_var, x_con, x_glob, x_tup, x_lst, x_bin, x_neg, x_inv, x_cmp, x_not, x_ite, x_ix, x_sl, x_call, x_bi, x_Es0, x_Es1, x_O0, x_O1, x_C0, x_asg, x_par2, x_aug, x_if, x_ret, x_ex, x_never, x_Ss0, x_Ss1, R.bind_some, List.getElem?_cons_zero, List.getElem?_cons_succ, List.set_cons_zero, List.set_cons_succ, Option.map_some, List.map_cons, List.map_nil, List.replicate, List.cons_append, List.nil_append, List.append_nil, Nat.sub_self, asg_nm, asg_tup, asgs_nil, asgs_cons, List.length_cons, List.length_nil, rd'_int, rd'_str, rd'_tup, rd_lst', rd_bl, rd_non, rd_scr, t_bl, t_int, t_non, Nat.reduceAdd, Nat.reduceLT, reduceIte, and_self]
  have s2 : evS (cfN tab k) (.for_ (.nm 2) (.seq (.bi .sorted [(.var 0)])) rb) [some (nmD L), some (.lst [.tup []]), none, none, none, none] st = some (.nx [some (nmD L), some (.lst ((subsL (srt L)).map rowD)), o2, none, none, none], st) := by
    have hb : biD .sorted [nmD L] st = some (.lst ((srt L).map D.str), st) := by
      show (sortD _).map _ = _
      rw [hs]
      rfl
    have hi : evI (cfN tab k) (.seq (.bi .sorted [(.var 0)])) [some (nmD L), some (.lst [.tup []]), none, none, none, none] st = some ((srt L).map D.str, st) := by
      rw [x_seq]
      simp only [x_var, x_con, x_glob, x_tup, x_lst, x_bin, x_neg, x_inv, x_cmp, x_not, x_ite, x_ix, x_sl, x_call, x_bi, x_Es0, x_Es1, x_O0, x_O1, x_C0, x_asg, x_par2, x_aug, x_if, x_ret, x_ex, x_never, x_Ss0, x_Ss1, R.bind_some, List.getElem?_cons_zero, List.getElem?_cons_succ, List.set_cons_zero, List.set_cons_succ, Option.map_some, List.map_cons, List.map_nil, List.replicate, List.cons_append, List.nil_append, List.append_nil, Nat.sub_self, asg_nm, asg_tup, asgs_nil, asgs_cons, List.length_cons, List.length_nil, rd'_int, rd'_str, rd'_tup, rd_lst', rd_bl, rd_non, rd_scr, t_bl, t_int, t_non, Nat.reduceAdd, Nat.reduceLT, reduceIte, and_self, hb, itemsOf]
    rw [x_for, hi, R.bind_some]
    exact hl
  have hok2 : ∀ r ∈ subsL (srt L), ∀ s ∈ r, okS s := fun r hr s hs' => ho.ok s (srt_mem.mp (((subsL_mem _ r).mp hr).subset hs'))
  have hlim : (subsL (srt L)).length ≤ LIM := lim10 (by rw [subsL_len, srt_len]; omega)
  have h2 := keyed_ok (cf := cfN tab k) (st := st) (rs := subsL (srt L)) (env := [some (nmD L), some (.lst ((subsL (srt L)).map rowD)), o2, none, none, none]) (i := 1) (a := 4) (b := 4) rfl (by decide) (by simp) hok2 hlim
  have h3 := unkey_ok (cf := cfN tab k) (st := st) (rs := srtR (subsL (srt L))) (env := [some (nmD L), some (.lst ((subsL (srt L)).map rowD)), o2, some (.lst ((srtR (subsL (srt L))).map keyR)), none, none]) (i := 3) (a := 5) (b := 4) (own := [4, 5]) rfl (by decide) (by simp) (by simp) (by rw [srtR_len]; exact hlim)
  show evSs (cfN tab k) [_, _, _, _] [some (nmD L), none, none, none, none, none] st = _
  rw [Ss_nx s1, Ss_nx s2, Ss_nx (by rw [x_asg, h2]; rfl)]
  refine Ss_rt ?_
  rw [x_ret]
  show R.bind (evE (cfN tab k) _ [some (nmD L), some (.lst ((subsL (srt L)).map rowD)), o2, some (.lst ((srtR (subsL (srt L))).map keyR)), none, none] st) _ = _
  rw [h3]
  rfl
end
/-- a formula hangs on a name -/
def Hangs (f : Fm) (s : Str) : Prop := ∃ ρ, f.ev (upT ρ s true) ≠ f.ev (upT ρ s false)
theorem hangs_mem {f : Fm} {s : Str} (h : Hangs f s) : s ∈ f.names := by
  obtain ⟨ρ, h⟩ := h
  by_cases q : s ∈ f.names
  · exact q
  · refine absurd (Fm.ev_congr f fun x hx => ?_) h
    unfold upT
    have : ¬ x = s := fun e => q (e ▸ hx)
    rw [if_neg this, if_neg this]
theorem hangs_congr {f g : Fm} (h : ∀ ρ, g.ev ρ = f.ev ρ) (s : Str) : Hangs g s ↔ Hangs f s := by
  unfold Hangs
  simp only [h]
def hungB (names : List Str) (T : Nat) (s : Str) : Bool := !decide (((hiT names s T : Nat) : Int) = ((loT names s T : Nat) : Int))
theorem hung_iff {names : List Str} {f : Fm} {T : Nat} (t : TrOk names f T) (hf : ∀ x ∈ f.names, x ∈ names) {s : Str} (hs : s ∈ names) : hungB names T s = true ↔ Hangs f s := by
  unfold hungB
  rw [Bool.not_eq_true', decide_eq_false_iff_not]
  constructor
  · intro h
    by_cases q : Hangs f s
    · exact q
    · refine absurd (congrArg Int.ofNat (Nat.eq_of_testBit_eq fun n => ?_)) h
      by_cases hn : n < 2 ^ names.length
      · rw [hi_ev hs t hn, lo_ev hs t hn]
        by_cases e : f.ev (upT (fun x => n.testBit (names.idxOf x)) s true) = f.ev (upT (fun x => n.testBit (names.idxOf x)) s false)
        · exact e
        · exact absurd ⟨_, e⟩ q
      · have hp : 2 ^ 2 ^ names.length ≤ 2 ^ n := Nat.pow_le_pow_right (by decide) (by omega)
        rw [Nat.testBit_lt_two_pow (Nat.lt_of_lt_of_le (hi_lt hs t.1) hp), Nat.testBit_lt_two_pow (Nat.lt_of_lt_of_le (lo_lt hs t.1) hp)]
  · rintro ⟨ρ, h⟩ e
    obtain ⟨n, hn, hb⟩ := bits_ex names.length fun i => match names[i]? with
      | some x => ρ x
      | none => false
    have cg : ∀ b, f.ev (upT (fun x => n.testBit (names.idxOf x)) s b) = f.ev (upT ρ s b) := fun b => by
      refine Fm.ev_congr f fun x hx => ?_
      unfold upT
      split
      · rfl
      · have hm := hf x hx
        show n.testBit (names.idxOf x) = ρ x
        rw [hb _ (idx_lt hm), List.getElem?_eq_getElem (idx_lt hm), List.getElem_idxOf]
    refine h ?_
    rw [← cg true, ← cg false, ← hi_ev hs t hn, ← lo_ev hs t hn]
    have : hiT names s T = loT names s T := by omega
    rw [this]
section
variable {k : Nat} {st : Store} {f : Fm} {L : List Str}
def hE (f : D) (names : List Str) (T l : Nat) (o4 o5 o6 o7 : Option D) : Env := [some f, some (nmD names), some (intD T), some (.ref l), o4, o5, o6, o7]
theorem top_set {m m' : MO} : (st ++ [m]).set st.length m' = st ++ [m'] := by
  rw [List.set_append_right _ _ (Nat.le_refl _), Nat.sub_self]
  rfl
theorem hung_loop {names : List Str} {T : Nat} {f0 : D} (hm : names.length ≤ 10) (hnd : names.Nodup) (hT : T < 2 ^ 2 ^ names.length) : ∀ (rest pre found : List Str) (o4 o5 o6 o7 : Option D), names = pre ++ rest → found.length + rest.length ≤ 1000 →
    ∃ o4' o5' o6' o7', evFor (.tup [4, 5]) (fun env st => evSs (cfN tab (k + 2)) ([.asg (.tup [6, 7]) (.call F_sides_of [(.var 2), (.var 4), (.bi .len [(.var 1)])]), .if_ (.cmp .NotEq (.var 6) (.var 7)) [.ex (.mt .append (.var 3) [(.var 5)])] []]) env st) (enumD pre.length (rest.map D.str)) (hE f0 names T st.length o4 o5 o6 o7) (st ++ [.lst (found.map D.str)]) = some (.nx (hE f0 names T st.length o4' o5' o6' o7'), st ++ [.lst ((found ++ rest.filter (hungB names T)).map D.str)])
  | [], pre, found, o4, o5, o6, o7, _, _ => ⟨o4, o5, o6, o7, by
    rw [List.filter_nil, List.append_nil]
    rfl⟩
  | s :: rest, pre, found, o4, o5, o6, o7, e, hl => by
    rw [List.length_cons] at hl
    have hi : pre.length < names.length := by rw [e, List.length_append, List.length_cons]; omega
    have hs : s ∉ pre := by
      rw [e] at hnd
      intro h
      exact (List.nodup_append.mp hnd).2.2 s h s List.mem_cons_self rfl
    have hx : names.idxOf s = pre.length := by
      rw [e, List.idxOf_append, if_neg hs, List.idxOf_cons_self]
      omega
    have c := sides_ok (k := k) (st := st ++ [.lst (found.map D.str)]) (T := T) (i := pre.length) (m := names.length) hi hm hT
    have ch : (highM T pre.length names.length ||| highM T pre.length names.length >>> 2 ^ pre.length) = hiT names s T := by rw [← hx]; rfl
    have cl : (lowM T pre.length names.length ||| lowM T pre.length names.length <<< 2 ^ pre.length) = loT names s T := by rw [← hx]; rfl
    rw [ch, cl] at c
    have s1 : evS (cfN tab (k + 2)) (.asg (.tup [6, 7]) (.call F_sides_of [(.var 2), (.var 4), (.bi .len [(.var 1)])])) (hE f0 names T st.length (some (.int pre.length)) (some (.str s)) o6 o7) (st ++ [.lst (found.map D.str)]) = some (.nx (hE f0 names T st.length (some (.int pre.length)) (some (.str s)) (some (.int (hiT names s T : Nat))) (some (.int (loT names s T : Nat)))), st ++ [.lst (found.map D.str)]) := by
      refine asg_ok (call_ok (ds := [.int T, .int pre.length, .int names.length]) ?_ c) rfl
      rw [x_Es1, var_ok (d := intD T) rfl, R.bind_some, x_Es1, var_ok (d := .int pre.length) rfl, R.bind_some, x_Es1, bi1_ok (var_ok (d := nmD names) rfl) bi_len, R.bind_some, x_Es0, List.length_map]
      rfl
    have c2 : evE (cfN tab (k + 2)) (.cmp .NotEq (.var 6) (.var 7)) (hE f0 names T st.length (some (.int pre.length)) (some (.str s)) (some (.int (hiT names s T : Nat))) (some (.int (loT names s T : Nat)))) (st ++ [.lst (found.map D.str)]) = some (.bl (hungB names T s), st ++ [.lst (found.map D.str)]) := cmp_ok (var_ok rfl) (var_ok rfl) cmp_ne_ii
    have s2 : evS (cfN tab (k + 2)) (.if_ (.cmp .NotEq (.var 6) (.var 7)) [.ex (.mt .append (.var 3) [(.var 5)])] []) (hE f0 names T st.length (some (.int pre.length)) (some (.str s)) (some (.int (hiT names s T : Nat))) (some (.int (loT names s T : Nat)))) (st ++ [.lst (found.map D.str)]) = some (.nx (hE f0 names T st.length (some (.int pre.length)) (some (.str s)) (some (.int (hiT names s T : Nat))) (some (.int (loT names s T : Nat)))), st ++ [.lst ((found ++ if hungB names T s then [s] else []).map D.str)]) := by
      cases q : hungB names T s with
      | false =>
        rw [q] at c2
        rw [if_f c2, x_Ss0, if_neg Bool.false_ne_true, List.append_nil]
      | true =>
        rw [q] at c2
        have ap : mtD .append (.ref st.length) [.str s] (st ++ [.lst (found.map D.str)]) = some (.non, st ++ [.lst ((found ++ [s]).map D.str)]) := by
          simp only [mtD, top_at, D.clean, Bool.true_and]
          rw [if_pos (decide_eq_true (Nat.lt_of_le_of_lt (show (found.map D.str).length ≤ 1000 by rw [List.length_map]; omega) (by decide))), top_set, List.map_append]
          rfl
        rw [if_t c2, if_pos rfl, Ss_nx (env1 := hE f0 names T st.length (some (.int pre.length)) (some (.str s)) (some (.int (hiT names s T : Nat))) (some (.int (loT names s T : Nat)))) (by
          rw [x_ex, x_mt, var_ok (d := .ref st.length) rfl, R.bind_some, if_pos (by simp only [mtTy, top_at]), x_Es1, var_ok (d := .str s) rfl, R.bind_some, x_Es0, R.bind_some, R.bind_some, ap]
          rfl), x_Ss0]
    obtain ⟨p4, p5, p6, p7, ih⟩ := hung_loop (f0 := f0) hm hnd hT rest (pre ++ [s]) (found ++ if hungB names T s then [s] else []) (some (.int pre.length)) (some (.str s)) (some (.int (hiT names s T : Nat))) (some (.int (loT names s T : Nat))) (by rw [e, List.append_assoc]; rfl) (by
      rw [List.length_append]
      split <;> simp <;> omega)
    refine ⟨p4, p5, p6, p7, ?_⟩
    rw [List.map_cons, enumD, evFor]
    show R.bind (evSs (cfN tab (k + 2)) _ (hE f0 names T st.length (some (.int pre.length)) (some (.str s)) o6 o7) _) _ = _
    rw [Ss_nx s1, Ss_nx s2, x_Ss0, R.bind_some]
    rw [List.length_append, List.length_singleton] at ih
    refine ih.trans ?_
    rw [List.append_assoc, List.filter_cons]
    split <;> rfl
theorem hung_names_ok (hK : 15 ≤ k) (h : FmOk f L) : ∃ H : List Str, cfN tab (k + 1) F_hung_names [f.d] st = some (rowD (srt H), st) ∧ H.Nodup ∧ ∀ x, x ∈ H ↔ Hangs f x := by
  obtain ⟨ns, h1, h2, h3⟩ := names_in_ok (k := k - 4) (st := st) h
  rw [show k - 4 + 4 = k by omega] at h1
  have hnm : ∀ x ∈ ns, Nm x := fun x hx => h.nm x ((h3 x).mp hx)
  have hnl : ns.length ≤ 10 := Nat.le_trans (nodup_len h2 fun x hx => h.sub x ((h3 x).mp hx)) h.len
  obtain ⟨T, t1, t2⟩ := truths_ok hnl (fun x hx => (hnm x hx).ok) f (fun x hx => (h3 x).mpr hx) k (by have := h.deep; omega) st
  obtain ⟨o4, o5, o6, o7, hl⟩ := hung_loop (k := k - 2) (st := st) (f0 := f.d) hnl h2 t2.1 ns [] [] none none none none rfl (by simp; omega)
  rw [show k - 2 + 2 = k by omega, List.nil_append] at hl
  refine ⟨ns.filter (hungB ns T), ?_, h2.filter _, fun x => ?_⟩
  · generalize hH : ns.filter (hungB ns T) = H at *
    have hHn : ∀ x ∈ H, okS x := fun x hx => (hnm x (List.mem_filter.mp (hH ▸ hx)).1).ok
    have hHl : H.length ≤ 10 := by rw [← hH]; exact Nat.le_trans (List.length_filter_le _ _) hnl
    have hs := sort_strs hHn (lim10 (by omega))
    rw [srt_map] at hs
    have s0 : evS (cfN tab k) (.asg (.nm 1) (.call F_names_in [(.var 0)])) [some f.d, none, none, none, none, none, none, none] st = some (.nx [some f.d, some (nmD ns), none, none, none, none, none, none], st) := asg_ok (call_ok (ds := [f.d]) (by rw [x_Es1, var_ok (d := f.d) rfl, R.bind_some, x_Es0]; rfl) h1) rfl
    have s1 : evS (cfN tab k) (.asg (.nm 2) (.call F_truths_of [(.var 0), (.var 1)])) [some f.d, some (nmD ns), none, none, none, none, none, none] st = some (.nx [some f.d, some (nmD ns), some (intD T), none, none, none, none, none], st) := asg_ok (call_ok (ds := [f.d, nmD ns]) (by rw [x_Es1, var_ok (d := f.d) rfl, R.bind_some, x_Es1, var_ok (d := nmD ns) rfl, R.bind_some, x_Es0]; rfl) t1) rfl
    have s2 : evS (cfN tab k) (.asg (.nm 3) (.nlst [])) [some f.d, some (nmD ns), some (intD T), none, none, none, none, none] st = some (.nx (hE f.d ns T st.length none none none none), st ++ [.lst []]) := by
      refine asg_ok (x := .ref st.length) ?_ rfl
      rw [x_nlst, x_Es0, R.bind_some, if_pos (by rfl)]
    have s3 : evS (cfN tab k) (.for_ (.tup [4, 5]) (.enum (.var 1)) [.asg (.tup [6, 7]) (.call F_sides_of [(.var 2), (.var 4), (.bi .len [(.var 1)])]), .if_ (.cmp .NotEq (.var 6) (.var 7)) [.ex (.mt .append (.var 3) [(.var 5)])] []]) (hE f.d ns T st.length none none none none) (st ++ [.lst []]) = some (.nx (hE f.d ns T st.length o4 o5 o6 o7), st ++ [.lst (H.map D.str)]) := by
      have hi : evI (cfN tab k) (.enum (.var 1)) (hE f.d ns T st.length none none none none) (st ++ [.lst []]) = some (enumD 0 (ns.map D.str), st ++ [.lst []]) := by
        rw [x_enum, var_ok (d := nmD ns) rfl]
        rfl
      rw [x_for, hi, R.bind_some]
      exact hl
    have s4 : evS (cfN tab k) (.frz 3) (hE f.d ns T st.length o4 o5 o6 o7) (st ++ [.lst (H.map D.str)]) = some (.nx [some f.d, some (nmD ns), some (intD T), some (nmD H), o4, o5, o6, o7], st ++ [.dead]) := by
      rw [x_frz]
      simp only [hE, List.getElem?_cons_succ, List.getElem?_cons_zero, top_at, top_set]
      rfl
    have s5 : evS (cfN tab k) (.ret (.bi .tuple [(.bi .sorted [(.var 3)])])) [some f.d, some (nmD ns), some (intD T), some (nmD H), o4, o5, o6, o7] (st ++ [.dead]) = some (.rt (rowD (srt H)), st ++ [.dead]) := by
      refine ret_ok (bi1_ok (x := .lst ((srt H).map D.str)) (bi1_ok (var_ok rfl) ?_) rfl)
      show (sortD _).map _ = _
      rw [hs]
      rfl
    have cl : (rowD (srt H)).clean = true := (pl_row fun s hs' => hHn s (srt_mem.mp hs')).clean
    rw [run_c (k := k) (f := ir_hung_names) (i := F_hung_names) (ds := [f.d]) rfl rfl (st1 := st ++ [.dead]) (d := rowD (srt H)) ?_ cl, List.take_left' rfl]
    show evSs (cfN tab k) [_, _, _, _, _, _] [some f.d, none, none, none, none, none, none, none] st = _
    rw [Ss_nx s0, Ss_nx s1, Ss_nx s2, Ss_nx s3, Ss_nx s4]
    exact Ss_rt s5
  · rw [List.mem_filter]
    constructor
    · rintro ⟨a, b⟩
      exact (hung_iff t2 (fun x hx => (h3 x).mpr hx) a).mp b
    · intro hx
      have a := (h3 x).mpr (hangs_mem hx)
      exact ⟨a, (hung_iff t2 (fun x hx => (h3 x).mpr hx) a).mpr hx⟩
theorem hangs_on_ok (hK : 17 ≤ k) (h : FmOk f L) : ∃ H : List Str, cfN tab (k + 1) F_hangs_on [f.d] st = some (rowD (srt H), st) ∧ H.Nodup ∧ ∀ x, x ∈ H ↔ Hangs f x := by
  obtain ⟨H, h1, h2, h3⟩ := hung_names_ok (k := k - 1) (st := st) (by omega) h
  rw [show k - 1 + 1 = k by omega] at h1
  obtain ⟨F, ns, w1, _, _⟩ := walked_ok (k := k - 4) (st := st) h
  have nf : cfN tab k F_need_formula [f.d] st = some (f.d, st) := by
    obtain ⟨j, rfl⟩ : ∃ j, k = j + 1 := ⟨k - 1, by omega⟩
    refine run_rt rfl rfl ?_
    rw [show j + 1 - 4 + 3 = j by omega] at w1
    show evSs (cfN tab j) [_, _] [some f.d] st = _
    rw [Ss_nx (env1 := [some f.d]) (st1 := st) (by
      rw [x_ex, call_ok (ds := [f.d]) (by rw [x_Es1, var_ok (d := f.d) rfl, R.bind_some, x_Es0]; rfl) w1, R.bind_some])]
    exact Ss_rt (ret_ok (var_ok rfl))
  refine ⟨H, run_rt rfl rfl ?_, h2, h3⟩
  show evSs (cfN tab k) [_] [some f.d] st = _
  refine Ss_rt (ret_ok (call_ok (ds := [f.d]) ?_ h1))
  rw [x_Es1, call_ok (ds := [f.d]) (by rw [x_Es1, var_ok (d := f.d) rfl, R.bind_some, x_Es0]; rfl) nf, R.bind_some, x_Es0]
  rfl
/-- truths are known by what they come to -/
theorem tr_uniq {names : List Str} {f g : Fm} {T U : Nat} (h : TrOk names f T) (h' : TrOk names g U) (he : ∀ ρ, g.ev ρ = f.ev ρ) : T = U := by
  refine Nat.eq_of_testBit_eq fun n => ?_
  by_cases hn : n < 2 ^ names.length
  · rw [h.2 n hn, h'.2 n hn, he]
  · have hp : 2 ^ 2 ^ names.length ≤ 2 ^ n := Nat.pow_le_pow_right (by decide) (by omega)
    rw [Nat.testBit_lt_two_pow (Nat.lt_of_lt_of_le h.1 hp), Nat.testBit_lt_two_pow (Nat.lt_of_lt_of_le h'.1 hp)]
theorem differ_ok {g : Fm} (hK : 15 ≤ k) (hf : FmOk f L) (hg : FmOk g L) (he : ∀ ρ, g.ev ρ = f.ev ρ) : cfN tab (k + 1) F_differ_at [f.d, g.d] st = some (.non, st) := by
  obtain ⟨n1, a1, a2, a3⟩ := names_in_ok (k := k - 4) (st := st) hf
  obtain ⟨n2, b1, b2, b3⟩ := names_in_ok (k := k - 4) (st := st) hg
  rw [show k - 4 + 4 = k by omega] at a1 b1
  have m1 : ∀ x ∈ n1, Nm x := fun x hx => hf.nm x ((a3 x).mp hx)
  have m2 : ∀ x ∈ n2, Nm x := fun x hx => hg.nm x ((b3 x).mp hx)
  have l1 : n1.length ≤ 10 := Nat.le_trans (nodup_len a2 fun x hx => hf.sub x ((a3 x).mp hx)) hf.len
  have l2 : n2.length ≤ 10 := Nat.le_trans (nodup_len b2 fun x hx => hg.sub x ((b3 x).mp hx)) hf.len
  generalize hN : n1 ++ n2.filter (fun x => !decide (x ∈ n1)) = N
  have mN : ∀ x ∈ N, Nm x := fun x hx => by
    rw [← hN] at hx
    exact (List.mem_append.mp hx).elim (m1 x) fun hx => m2 x (List.mem_filter.mp hx).1
  have sub : ∀ x ∈ N, x ∈ L := fun x hx => by
    rw [← hN] at hx
    exact (List.mem_append.mp hx).elim (fun hx => hf.sub x ((a3 x).mp hx)) fun hx => hg.sub x ((b3 x).mp (List.mem_filter.mp hx).1)
  have nd : N.Nodup := by
    rw [← hN]
    refine List.nodup_append.mpr ⟨a2, b2.filter _, fun x hx y hy => ?_⟩
    rintro rfl
    have := (List.mem_filter.mp hy).2
    simp [hx] at this
  have lN : N.length ≤ 10 := Nat.le_trans (nodup_len nd sub) hf.len
  have i1 : ∀ x ∈ f.names, x ∈ N := fun x hx => by rw [← hN]; exact List.mem_append_left _ ((a3 x).mpr hx)
  have i2 : ∀ x ∈ g.names, x ∈ N := fun x hx => by
    rw [← hN]
    by_cases q : x ∈ n1
    · exact List.mem_append_left _ q
    · exact List.mem_append_right _ (List.mem_filter.mpr ⟨(b3 x).mpr hx, by simp [q]⟩)
  obtain ⟨T, t1, t2⟩ := truths_ok lN (fun x hx => (mN x hx).ok) f i1 k (by have := hf.deep; omega) st
  obtain ⟨U, u1, u2⟩ := truths_ok lN (fun x hx => (mN x hx).ok) g i2 k (by have := hg.deep; omega) st
  have hTU := tr_uniq t2 u2 he
  subst hTU
  have r0 := rows_in_ok (k := k - 2) (st := st) lN (fun x hx => (mN x hx).ok) (T := 0)
  rw [show k - 2 + 2 = k by omega] at r0
  have e0 : srtR (((List.range (2 ^ N.length)).filter fun n => Nat.testBit 0 n).map (rowAt N)) = [] := by
    have : (List.range (2 ^ N.length)).filter (fun n => Nat.testBit 0 n) = [] := by
      rw [List.filter_eq_nil_iff]
      intro a _
      simp
    rw [this]
    exact List.eq_nil_of_length_eq_zero (by rw [srtR_len]; rfl)
  rw [e0] at r0
  refine run_rt rfl rfl ?_
  show evSs (cfN tab k) [_, _, _, _, _] [some f.d, some g.d, none, none, none, none] st = _
  have s0 : evS (cfN tab k) (.asg (.nm 2) (.call F_names_in [(.var 0)])) [some f.d, some g.d, none, none, none, none] st = some (.nx [some f.d, some g.d, some (nmD n1), none, none, none], st) := asg_ok (call_ok (ds := [f.d]) (by rw [x_Es1, var_ok (d := f.d) rfl, R.bind_some, x_Es0]; rfl) a1) rfl
  have s1 : evS (cfN tab k) (.asg (.nm 2) (.bin .Add (.var 2) (.lc false (.var 5) (.nm 5) (.seq (.call F_names_in [(.var 1)])) (some (.cmp .NotIn (.var 5) (.var 2))) [5]))) [some f.d, some g.d, some (nmD n1), none, none, none] st = some (.nx [some f.d, some g.d, some (nmD N), none, none, none], st) := by
    have hi : evI (cfN tab k) (.seq (.call F_names_in [(.var 1)])) [some f.d, some g.d, some (nmD n1), none, none, none] st = some (n2.map D.str, st) := by
      rw [x_seq, call_ok (ds := [g.d]) (by rw [x_Es1, var_ok (d := g.d) rfl, R.bind_some, x_Es0]; rfl) b1]
      rfl
    refine asg_ok (x := nmD N) (bin_ok (var_ok rfl) (x_lcg (a := D.str) (b := D.str) (p := fun x => !decide (x ∈ n1)) hi (lim10 (by omega)) fun x hx => ⟨[some f.d, some g.d, some (nmD n1), none, none, some (.str x)], .bl (!decide (x ∈ n1)), rfl, cmp_ok (var_ok rfl) (var_ok rfl) (in_strs (m2 x hx).ok fun y hy => (m1 y hy).ok).2.2.2, rfl, fun _ => var_ok rfl⟩) ?_) rfl
    rw [show rd st (nmD n1) = .lst (n1.map D.str) from rfl, rd_lst', d_addL (by
      rw [List.length_map, List.length_map]
      have := List.length_filter_le (fun x => !decide (x ∈ n1)) n2
      omega), ← hN, ← List.map_append]
    rfl
  have s2 : evS (cfN tab k) (.asg (.nm 3) (.bin .BitXor (.call F_truths_of [(.var 0), (.var 2)]) (.call F_truths_of [(.var 1), (.var 2)]))) [some f.d, some g.d, some (nmD N), none, none, none] st = some (.nx [some f.d, some g.d, some (nmD N), some (intD 0), none, none], st) := by
    refine asg_ok (x := intD 0) (bin_ok (x := intD T) (y := intD T) (call_ok (ds := [f.d, nmD N]) (by rw [x_Es1, var_ok (d := f.d) rfl, R.bind_some, x_Es1, var_ok (d := nmD N) rfl, R.bind_some, x_Es0]; rfl) t1) (call_ok (ds := [g.d, nmD N]) (by rw [x_Es1, var_ok (d := g.d) rfl, R.bind_some, x_Es1, var_ok (d := nmD N) rfl, R.bind_some, x_Es0]; rfl) u1) ?_) rfl
    rw [rd_intD, d_xorI, Nat.xor_self]
  have s3 : evS (cfN tab k) (.asg (.nm 4) (.call F_rows_in [(.var 3), (.var 2)])) [some f.d, some g.d, some (nmD N), some (intD 0), none, none] st = some (.nx [some f.d, some g.d, some (nmD N), some (intD 0), some (.lst []), none], st) := asg_ok (call_ok (ds := [intD 0, nmD N]) (by rw [x_Es1, var_ok (d := intD 0) rfl, R.bind_some, x_Es1, var_ok (d := nmD N) rfl, R.bind_some, x_Es0]; rfl) r0) rfl
  have c : evE (cfN tab k) (.cmp .Eq (.var 4) (.lst [])) [some f.d, some g.d, some (nmD N), some (intD 0), some (.lst []), none] st = some (.bl true, st) := cmp_ok (var_ok rfl) ev_lst0 (cmp_nil (n := 0) (.nil 0) (by decide))
  rw [Ss_nx s0, Ss_nx s1, Ss_nx s2, Ss_nx s3]
  refine Ss_rt (ret_ok ?_)
  rw [x_ite, c, R.bind_some, t_bl]
  exact x_con
end
end Kw

set_option Elab.async false
set_option linter.all false
set_option maxRecDepth 100000
set_option maxHeartbeats 1000000
/-! Law k08: rows by other names. -/
namespace Kw
open PySem
structure Ren (L F : List Str) (σ : Str → Str) : Prop where
  map : L.map σ = F
  inj : ∀ x ∈ L, ∀ y ∈ L, σ x = σ y → x = y
def sigma (L F : List Str) (s : Str) : Str := (F[L.idxOf s]?).getD ""
theorem sigma_at {L F : List Str} (hL : L.Nodup) (hl : F.length = L.length) {i : Nat} (h : i < L.length) : sigma L F L[i] = F[i] := by
  unfold sigma
  rw [hL.idxOf_getElem, List.getElem?_eq_getElem (by omega)]
  rfl
theorem sigma_ren {L F : List Str} (hL : L.Nodup) (hF : F.Nodup) (hl : F.length = L.length) : Ren L F (sigma L F) where
  map := by
    refine List.ext_getElem (by rw [List.length_map, hl]) fun i h1 h2 => ?_
    rw [List.getElem_map, sigma_at hL hl]
  inj := by
    intro x hx y hy e
    obtain ⟨i, hi, rfl⟩ := List.getElem_of_mem hx
    obtain ⟨j, hj, rfl⟩ := List.getElem_of_mem hy
    rw [sigma_at hL hl, sigma_at hL hl, List.getElem_inj hF] at e
    subst e
    rfl
theorem map_nodup {α β : Type} {f : α → β} : ∀ {l : List α}, l.Nodup → (∀ x ∈ l, ∀ y ∈ l, f x = f y → x = y) → (l.map f).Nodup
  | [], _, _ => List.nodup_nil
  | a :: l, h, i => by
    rw [List.map_cons, List.nodup_cons]
    rw [List.nodup_cons] at h
    refine ⟨fun hm => ?_, map_nodup h.2 fun x hx y hy => i x (List.mem_cons_of_mem _ hx) y (List.mem_cons_of_mem _ hy)⟩
    obtain ⟨b, hb, e⟩ := List.mem_map.mp hm
    have := i b (List.mem_cons_of_mem _ hb) a List.mem_cons_self e
    exact h.1 (this ▸ hb)
theorem sub_of {r F : List Str} (hp : r.Pairwise fun a b => leD (.str a) (.str b) = true) (hn : r.Nodup) (hF : F.Nodup) (h : ∀ x ∈ r, x ∈ F) : r.Sublist (srt F) := by
  have e : r = (srt F).filter fun x => decide (x ∈ r) := srt_uniq hp ((srt_pw F).filter _) ((List.perm_ext_iff_of_nodup hn ((srt_nodup hF).filter _)).mpr fun x => by
    rw [List.mem_filter, srt_mem, decide_eq_true_eq]
    exact ⟨fun hx => ⟨h x hx, hx⟩, fun hx => hx.2⟩)
  rw [e]
  exact List.filter_sublist
theorem rows_called {L F : List Str} {σ : Str → Str} {f g : Fm} (R : Ren L F σ) (hL : L.Nodup) (hF : F.Nodup) (hg : ∀ x ∈ g.names, x ∈ L) (he : ∀ ρ, g.ev ρ = f.ev ρ) :
    srtR (((srtR (subsL (srt L))).filter (rowOk f)).map fun r => srt (r.map σ)) = (srtR (subsL (srt F.reverse))).filter (rowOk (g.ren σ)) := by
  have hFr : F.reverse.Nodup := (List.reverse_perm F).nodup_iff.mpr hF
  have row : ∀ r : List Str, r.Sublist (srt L) → (∀ s ∈ r, s ∈ L) ∧ r.Nodup ∧ r.Pairwise fun a b => leD (.str a) (.str b) = true := fun r h => ⟨fun s hs => srt_mem.mp (h.subset hs), (srt_nodup hL).sublist h, (srt_pw L).sublist h⟩
  have mn : ∀ r : List Str, r.Sublist (srt L) → (r.map σ).Nodup := fun r h => map_nodup (row r h).2.1 fun x hx y hy => R.inj x ((row r h).1 x hx) y ((row r h).1 y hy)
  have ok : ∀ (r r' : List Str), (∀ x ∈ L, σ x ∈ r' ↔ x ∈ r) → rowOk (g.ren σ) r' = rowOk f r := fun r r' h => by
    unfold rowOk
    rw [← he]
    exact ren_ev R.inj g _ _ hg fun x hx => decide_eq_decide.mpr (h x hx)
  have mem1 : ∀ r : List Str, r.Sublist (srt L) → ∀ x ∈ L, σ x ∈ srt (r.map σ) ↔ x ∈ r := fun r h x hx => by
    rw [srt_mem, List.mem_map]
    exact ⟨fun ⟨y, hy, e⟩ => R.inj y ((row r h).1 y hy) x hx e ▸ hy, fun hx => ⟨x, hx, rfl⟩⟩
  refine srtR_uniq (srtR_pw _) ((srtR_pw _).filter _) ((srtR_perm _).trans ((List.perm_ext_iff_of_nodup ?_ ?_).mpr fun r' => ?_))
  · refine map_nodup (((srtR_perm _).nodup_iff.mpr (subsL_nodup _ (srt_nodup hL))).filter _) fun a ha b hb e => ?_
    have sa := (subsL_mem _ a).mp (srtR_mem.mp (List.mem_filter.mp ha).1)
    have sb := (subsL_mem _ b).mp (srtR_mem.mp (List.mem_filter.mp hb).1)
    refine srt_uniq (row a sa).2.2 (row b sb).2.2 ((List.perm_ext_iff_of_nodup (row a sa).2.1 (row b sb).2.1).mpr fun x => ?_)
    constructor
    · intro hx
      rw [← mem1 b sb x ((row a sa).1 x hx), ← e, mem1 a sa x ((row a sa).1 x hx)]
      exact hx
    · intro hx
      rw [← mem1 a sa x ((row b sb).1 x hx), e, mem1 b sb x ((row b sb).1 x hx)]
      exact hx
  · exact ((srtR_perm _).nodup_iff.mpr (subsL_nodup _ (srt_nodup hFr))).filter _
  · rw [List.mem_map, List.mem_filter, srtR_mem, subsL_mem]
    constructor
    · rintro ⟨r, hr, rfl⟩
      obtain ⟨h1, h2⟩ := List.mem_filter.mp hr
      have sr := (subsL_mem _ r).mp (srtR_mem.mp h1)
      refine ⟨sub_of (srt_pw _) (srt_nodup (mn r sr)) hFr fun x hx => ?_, ?_⟩
      · obtain ⟨y, hy, rfl⟩ := List.mem_map.mp (srt_mem.mp hx)
        rw [List.mem_reverse, ← R.map]
        exact List.mem_map.mpr ⟨y, (row r sr).1 y hy, rfl⟩
      · rw [ok r _ (mem1 r sr)]
        exact h2
    · rintro ⟨h1, h2⟩
      have hn' := (srt_nodup hFr).sublist h1
      have hs : ((srt L).filter fun s => decide (σ s ∈ r')).Sublist (srt L) := List.filter_sublist
      have hm : ∀ x ∈ L, σ x ∈ r' ↔ x ∈ (srt L).filter fun s => decide (σ s ∈ r') := fun x hx => by
        rw [List.mem_filter, srt_mem, decide_eq_true_eq]
        exact ⟨fun h => ⟨hx, h⟩, fun h => h.2⟩
      refine ⟨(srt L).filter fun s => decide (σ s ∈ r'), List.mem_filter.mpr ⟨srtR_mem.mpr ((subsL_mem _ _).mpr hs), by rw [← ok _ _ hm]; exact h2⟩, ?_⟩
      refine srt_uniq (srt_pw _) ((srt_pw _).sublist h1) ((List.perm_ext_iff_of_nodup (srt_nodup (mn _ hs)) hn').mpr fun x => ?_)
      rw [srt_mem, List.mem_map]
      constructor
      · rintro ⟨y, hy, rfl⟩
        exact of_decide_eq_true (List.mem_filter.mp hy).2
      · intro hx
        have hxF : x ∈ F := List.mem_reverse.mp (srt_mem.mp (h1.subset hx))
        rw [← R.map] at hxF
        obtain ⟨y, hy, rfl⟩ := List.mem_map.mp hxF
        exact ⟨y, (hm y hy).mp hx, rfl⟩
/-! ### the dict of names -/
theorem merge_nd : ∀ (more acc : List (L2.Key × D)), ((acc ++ more).map (·.1)).Nodup → mergeD acc more = acc ++ more
  | [], acc, _ => by rw [List.append_nil]; rfl
  | p :: more, acc, h => by
    have hp : putK acc p.1 p.2 = acc ++ [p] := by
      unfold putK
      rw [if_neg]
      intro q
      obtain ⟨x, hx, e⟩ := List.any_eq_true.mp q
      rw [List.map_append, List.nodup_append] at h
      exact h.2.2 x.1 (List.mem_map.mpr ⟨x, hx, rfl⟩) p.1 (List.mem_map.mpr ⟨p, List.mem_cons_self, rfl⟩) (of_decide_eq_true e)
    have := merge_nd more (acc ++ [p]) (by rw [List.append_assoc]; exact h)
    rw [List.append_assoc] at this
    refine Eq.trans ?_ this
    show mergeD (putK acc p.1 p.2) more = _
    rw [hp]
def kvσ (σ : Str → Str) (s : Str) : L2.Key × D := (.inr s, .str (σ s))
theorem look_kv {σ : Str → Str} : ∀ {L : List Str} {s : Str}, s ∈ L → lookK (L.map (kvσ σ)) (.inr s) = some (.str (σ s))
  | a :: L, s, h => by
    unfold lookK
    rw [List.map_cons, List.find?_cons]
    by_cases e : a = s
    · subst e
      rw [show decide ((kvσ σ a).1 = (Sum.inr a : L2.Key)) = true from decide_eq_true rfl]
      rfl
    · rw [show decide ((kvσ σ a).1 = (Sum.inr s : L2.Key)) = false from decide_eq_false fun z => e (by injection z)]
      exact look_kv ((List.mem_cons.mp h).resolve_left fun z => e z.symm)
def ptD (σ : Str → Str) (s : Str) : D := .tup [.str s, .str (σ s)]
theorem pairs_σ {σ : Str → Str} : ∀ L : List Str, pairsK (L.map (ptD σ)) = some (L.map (kvσ σ))
  | [] => rfl
  | s :: L => by
    have := pairs_σ (σ := σ) L
    simp only [List.map_cons, ptD, pairsK, D.key]
    rw [this]
    rfl
theorem cleans_σ {σ : Str → Str} : ∀ L : List Str, D.cleans ((L.map (kvσ σ)).map (·.2)) = true
  | [] => rfl
  | s :: L => by
    have := cleans_σ (σ := σ) L
    simp only [List.map_cons, D.cleans, this]
    rfl
theorem dict_σ {σ : Str → Str} {L : List Str} {st : Store} (hL : L.Nodup) (hl : L.length ≤ 1000) : biD .dict [.lst (L.map (ptD σ))] st = some (.ref st.length, st ++ [.dK (L.map (kvσ σ))]) := by
  simp only [biD, pairs_σ, cleans_σ, Bool.true_and]
  rw [if_pos (decide_eq_true (lim10 (by rw [List.length_map]; omega)))]
  rw [merge_nd]
  · rfl
  · rw [List.nil_append, List.map_map]
    exact map_nodup hL fun x _ y _ e => by injection e
theorem rngD_nat (n : Nat) : rngD 0 (n : Int) = (List.range n).map fun (i : Nat) => D.int (i : Int) := by
  unfold rngD
  rw [Int.sub_zero, Int.toNat_natCast]
  refine List.map_congr_left fun i _ => ?_
  rw [Int.zero_add]
theorem range_pts {L F : List Str} (hL : L.Nodup) (hl : F.length = L.length) : ((List.range L.length).map fun i => D.tup [.str ((L[i]?).getD ""), .str ((F[i]?).getD "")]) = L.map (ptD (sigma L F)) := by
  refine List.ext_getElem (by simp) fun i h1 h2 => ?_
  have hi : i < L.length := by simpa using h2
  rw [List.getElem_map, List.getElem_map, List.getElem_range, ptD, sigma_at hL hl hi, List.getElem?_eq_getElem hi, List.getElem?_eq_getElem (by omega)]
  rfl
end Kw

set_option Elab.async false
set_option linter.all false
set_option maxRecDepth 100000
set_option maxHeartbeats 2000000
/-! Law k08: the law itself. -/
namespace Kw
open PySem
section
variable {K : Nat} {st : Store} {ns : List Int} {rest : Store}
def aE (ns : List Int) (o2 o3 o4 o5 o6 o7 o8 o9 o10 o11 o12 o13 o14 o15 o16 : Option D) : Env := [some (.scr ns), some (.ref 1), o2, o3, o4, o5, o6, o7, o8, o9, o10, o11, o12, o13, o14, o15, o16]
structure Oth (L : List Str) (f g : Fm) : Prop where
  ev : ∀ ρ, g.ev ρ = f.ev ρ
  sub : ∀ x ∈ g.names, x ∈ L
  size : g.size < 50
  deep : g.deep < 9
theorem args1 {cf : CF} {a : E} {env : Env} {st1 : Store} {x : D} (ha : evE cf a env st = some (x, st1)) : evEs cf [a] env st = some ([x], st1) := by
  rw [x_Es1, ha, R.bind_some, x_Es0]
  rfl
theorem args2 {cf : CF} {a b : E} {env : Env} {st1 st2 : Store} {x y : D} (ha : evE cf a env st = some (x, st1)) (hb : evE cf b env st1 = some (y, st2)) : evEs cf [a, b] env st = some ([x, y], st2) := by
  rw [x_Es1, ha, R.bind_some, x_Es1, hb, R.bind_some, x_Es0]
  rfl
theorem cmp_ne_same {n : Nat} {d : D} (h : Pl n d) (hn : n ≤ 64) : cmpD .NotEq st d d = some false := by
  have q : rd st d = d := by cases h <;> rfl
  rw [cmpNe (by rw [q]; exact h.eqOk hn) (by rw [q]; exact h.eqOk hn), q, (Pl.eqv h h).mpr rfl]
  rfl
theorem oth_step (hK : 20 ≤ K) {L : List Str} (hL : ∀ s ∈ L, Nm s) {f g : Fm} (ho : Oth L f g) {o2 o3 o4 o6 o7 o8 o9 o10 o11 o12 o13 o14 o15 o16 : Option D} (h : Sx ns rest st) :
    ∃ (g' : Fm) (o13' : Option D) (st' : Store), evSs (cfN tab K) ([.asg (.nm 13) (.call F_law_turned [(.var 1), (.var 5)]), .asg (.nm 5) (.ite (.and [(.cmp .Lt (.call F_law_many [(.var 13)]) (.con (.int 50))), (.cmp .Lt (.call F_law_deep [(.var 13)]) (.con (.int 9)))]) (.var 13) (.var 5))]) (aE ns o2 o3 o4 (some g.d) o6 o7 o8 o9 o10 o11 o12 o13 o14 o15 o16) st = some (.nx (aE ns o2 o3 o4 (some g'.d) o6 o7 o8 o9 o10 o11 o12 (o13') o14 o15 o16), st') ∧ Oth L f g' ∧ Sx ns rest st' := by
  obtain ⟨t, st1, e1, l, h1⟩ := turned_ok (rest := rest) (ns := ns) g.deep g (Nat.le_refl _) (by have := ho.deep; omega) (fun x hx => hL x (ho.sub x hx)) K (by have := ho.deep; omega) st h
  have td : t.deep ≤ 10 := by have := l.deep; have := ho.deep; omega
  have m1 := many_ok t.deep t (Nat.le_refl _) K (by omega) st1
  have m2 := ldeep_ok t.deep t (Nat.le_refl _) K (by omega) st1
  have s0 : evS (cfN tab K) (.asg (.nm 13) (.call F_law_turned [(.var 1), (.var 5)])) (aE ns o2 o3 o4 (some g.d) o6 o7 o8 o9 o10 o11 o12 o13 o14 o15 o16) st = some (.nx (aE ns o2 o3 o4 (some g.d) o6 o7 o8 o9 o10 o11 o12 (some t.d) o14 o15 o16), st1) := asg_ok (call_ok (args2 (var_ok rfl) (var_ok rfl)) e1) rfl
  have c : evE (cfN tab K) ((.and [(.cmp .Lt (.call F_law_many [(.var 13)]) (.con (.int 50))), (.cmp .Lt (.call F_law_deep [(.var 13)]) (.con (.int 9)))])) (aE ns o2 o3 o4 (some g.d) o6 o7 o8 o9 o10 o11 o12 (some t.d) o14 o15 o16) st1 = some (.bl (decide ((t.size : Int) < 50) && decide ((t.deep : Int) < 9)), st1) := by
    refine ev_and2 (cmp_ok (call_ok (args1 (var_ok rfl)) m1) x_con cmp_lt) (cmp_ok (call_ok (args1 (var_ok rfl)) m2) x_con cmp_lt)
  by_cases hp : (decide ((t.size : Int) < 50) && decide ((t.deep : Int) < 9)) = true
  · rw [hp] at c
    refine ⟨t, some t.d, st1, ?_, ?_, h1⟩
    · rw [Ss_nx s0, Ss_nx (asg_ok (x := t.d) (st1 := st1) (env1 := (aE ns o2 o3 o4 (some t.d) o6 o7 o8 o9 o10 o11 o12 (some t.d) o14 o15 o16)) (by rw [x_ite, c, R.bind_some, t_bl]; exact var_ok rfl) rfl), x_Ss0]
    · rw [Bool.and_eq_true, decide_eq_true_eq, decide_eq_true_eq] at hp
      exact ⟨fun ρ => (l.ev ρ).trans (ho.ev ρ), fun x hx => ho.sub x (l.sub x hx), by omega, by omega⟩
  · rw [Bool.eq_false_iff.mpr hp] at c
    refine ⟨g, some t.d, st1, ?_, ho, h1⟩
    rw [Ss_nx s0, Ss_nx (asg_ok (x := g.d) (st1 := st1) (env1 := (aE ns o2 o3 o4 (some g.d) o6 o7 o8 o9 o10 o11 o12 (some t.d) o14 o15 o16)) (by rw [x_ite, c, R.bind_some, t_bl]; exact var_ok rfl) rfl), x_Ss0]
theorem oth_loop (hK : 20 ≤ K) {L : List Str} (hL : ∀ s ∈ L, Nm s) {f : Fm} {o2 o3 o4 o7 o8 o9 o10 o11 o12 o14 o15 o16 : Option D} : ∀ (ds : List D) (g : Fm) (o6 o13 : Option D) (st : Store), Oth L f g → Sx ns rest st →
    ∃ (g' : Fm) (o6' o13' : Option D) (st' : Store), evFor (.nm 6) (fun env st => evSs (cfN tab K) ([.asg (.nm 13) (.call F_law_turned [(.var 1), (.var 5)]), .asg (.nm 5) (.ite (.and [(.cmp .Lt (.call F_law_many [(.var 13)]) (.con (.int 50))), (.cmp .Lt (.call F_law_deep [(.var 13)]) (.con (.int 9)))]) (.var 13) (.var 5))]) env st) ds (aE ns o2 o3 o4 (some g.d) o6 o7 o8 o9 o10 o11 o12 o13 o14 o15 o16) st = some (.nx (aE ns o2 o3 o4 (some g'.d) (o6') o7 o8 o9 o10 o11 o12 (o13') o14 o15 o16), st') ∧ Oth L f g' ∧ Sx ns rest st'
  | [], g, o6, o13, st, ho, h => ⟨g, o6, o13, st, rfl, ho, h⟩
  | d :: ds, g, o6, o13, st, ho, h => by
    obtain ⟨g1, p13, st1, e1, ho1, h1⟩ := oth_step (K := K) hK hL ho (o2 := o2) (o3 := o3) (o4 := o4) (o7 := o7) (o8 := o8) (o9 := o9) (o10 := o10) (o11 := o11) (o12 := o12) (o14 := o14) (o15 := o15) (o16 := o16) (o6 := some d) (o13 := o13) h
    obtain ⟨g2, q6, q13, st2, e2, ho2, h2⟩ := oth_loop hK hL (f := f) ds g1 (some d) p13 st1 ho1 h1
    refine ⟨g2, q6, q13, st2, ?_, ho2, h2⟩
    rw [evFor]
    show R.bind (evSs (cfN tab K) _ (aE ns o2 o3 o4 (some g.d) (some d) o7 o8 o9 o10 o11 o12 o13 o14 o15 o16) st) _ = _
    rw [e1, R.bind_some]
    exact e2
theorem xor_fm {L : List Str} {f : Fm} (hf : FmOk f L) (hs : f.size ≤ 50) (hd : f.deep ≤ 8) : FmOk (.bin 2 f (.ite .yes .no .no)) L where
  len := hf.len
  deep := by simp only [Fm.deep]; omega
  size := by simp only [Fm.size]; omega
  nm := fun s hs => hf.nm s (by simpa [Fm.names] using hs)
  sub := fun s hs => hf.sub s (by simpa [Fm.names] using hs)
theorem xor_ev {f g : Fm} (he : ∀ ρ, g.ev ρ = f.ev ρ) (ρ : Str → Bool) : (Fm.bin 2 f (.ite .yes .no .no)).ev ρ = g.ev ρ := by
  simp only [Fm.ev, he]
  simp
theorem law_turn (hK : 22 ≤ K) {o2 o3 o4 o5 o6 o7 o8 o9 o10 o11 o12 o13 o14 o15 o16 : Option D} (h : Sx ns rest st) : ∃ (o3' o4' o5' o6' o7' o8' o9' o10' o11' o12' o13' o14' o15' o16' : Option D) (rest' st' : Store), evSs (cfN tab K) ([.asg (.nm 3) (.call F_law_names [(.var 1), (.bin .Add (.con (.int 1)) (.call F_law_draw [(.var 1), (.con (.int 4))]))]), .asg (.nm 4) (.call F_law_made [(.var 1), (.var 3), (.bin .Add (.con (.int 1)) (.call F_law_draw [(.var 1), (.con (.int 12))])), (.call F_law_draw [(.var 1), (.con (.int 5))])]), .asg (.nm 5) (.var 4), .for_ (.nm 6) (.rng (.bin .Add (.con (.int 1)) (.call F_law_draw [(.var 1), (.con (.int 6))]))) [.asg (.nm 13) (.call F_law_turned [(.var 1), (.var 5)]), .asg (.nm 5) (.ite (.and [(.cmp .Lt (.call F_law_many [(.var 13)]) (.con (.int 50))), (.cmp .Lt (.call F_law_deep [(.var 13)]) (.con (.int 9)))]) (.var 13) (.var 5))], .asg (.nm 7) (.bi .tuple [(.var 3)]), .if_ (.or [(.cmp .IsNot (.call F_differ_at [(.var 4), (.var 5)]) (.con .non)), (.cmp .IsNot (.call F_differ_at [(.var 5), (.var 4)]) (.con .non))]) [.ret (.con (.bl false))] [], .if_ (.or [(.cmp .NotEq (.call F_rows_of [(.var 4), (.var 7)]) (.call F_rows_of [(.var 5), (.var 7)])), (.cmp .NotEq (.call F_hangs_on [(.var 4)]) (.call F_hangs_on [(.var 5)]))]) [.ret (.con (.bl false))] [], .asg (.nm 8) (.call F_law_one [(.var 1), (.call F_law_rows [(.var 3)])]), .if_ (.cmp .IsNot (.call F_differ_at [(.var 5), (.tup [(.con (.str "xor")), (.var 4), (.tup [(.con (.str "if")), (.tup [(.con (.str "yes"))]), (.tup [(.con (.str "no"))]), (.tup [(.con (.str "no"))])])])]) (.con .non)) [.ret (.con (.bl false))] [], .if_ (.cmp .NotEq (.bi .repr [(.call F_is_yes [(.var 4), (.var 8)])]) (.bi .repr [(.call F_law_yes [(.var 5), (.var 8)])])) [.ret (.con (.bl false))] [], .asg (.nm 9) (.call F_law_names [(.var 1), (.bi .len [(.var 3)])]), .asg (.nm 10) (.call F_law_called [(.var 5), (.bi .dict [(.lc false (.tup [(.ix (.var 3) (.var 6)), (.ix (.var 9) (.var 6))]) (.nm 6) (.rng (.bi .len [(.var 3)])) none [6])])]), .asg (.nm 11) (.lc false (.bi .tuple [(.bi .sorted [(.lc false (.ix (.var 9) (.mt .index (.var 3) [(.var 16)])) (.nm 16) (.seq (.var 14)) none [16])])]) (.nm 14) (.seq (.call F_rows_of [(.var 4), (.var 7)])) none [14]), .asg (.nm 12) (.bi .sorted [(.lc false (.tup [(.bi .len [(.var 14)]), (.var 14)]) (.nm 14) (.seq (.var 11)) none [14])]), .if_ (.cmp .NotEq (.call F_rows_of [(.var 10), (.bi .tuple [(.rev (.var 9))])]) (.lc false (.var 14) (.tup [15, 14]) (.seq (.var 12)) none [14, 15])) [.ret (.con (.bl false))] []]) (aE ns o2 o3 o4 o5 o6 o7 o8 o9 o10 o11 o12 o13 o14 o15 o16) st = some (.nx (aE ns o2 (o3') (o4') (o5') (o6') (o7') (o8') (o9') (o10') (o11') (o12') (o13') (o14') (o15') (o16')), st') ∧ Sx ns rest' st' := by
  obtain ⟨r0, st1, e1, r00, r01, h1⟩ := draw_ge (K := K) (by omega) (many := 4) (by decide) (by decide) h
  obtain ⟨m, rfl⟩ : ∃ j : Nat, r0 = j := ⟨r0.toNat, by omega⟩
  obtain ⟨L, st2, e2, l1, l2, l3, h2⟩ := names_ok (k := K - 5) (m := m + 1) (by omega) h1
  rw [show K - 5 + 5 = K by omega, show ((m + 1 : Nat) : Int) = 1 + (m : Int) by omega] at e2
  obtain ⟨r2, st3, e3, r2a, r2b, h3⟩ := draw_ge (K := K) (by omega) (many := 12) (by decide) (by decide) h2
  obtain ⟨r3, st4, e4, r3a, r3b, h4⟩ := draw_ge (K := K) (by omega) (many := 5) (by decide) (by decide) h3
  obtain ⟨d, rfl⟩ : ∃ j : Nat, r3 = j := ⟨r3.toNat, by omega⟩
  obtain ⟨f, st5, e5, m1, h5⟩ := made_ok l2 (by omega) (by omega) d K (by omega) (1 + r2) st4 (by omega) (by omega) h4
  obtain ⟨r4, st6, e6, r4a, r4b, h6⟩ := draw_ge (K := K) (by omega) (many := 6) (by decide) (by decide) h5
  obtain ⟨t, rfl⟩ : ∃ j : Nat, r4 = j := ⟨r4.toNat, by omega⟩
  have f0 : Oth L f f := ⟨fun _ => rfl, m1.2.2, by have := m1.1; omega, by have := m1.2.1; omega⟩
  have hLl : L.length ≤ 4 := by omega
  have oo : OrdOk L := ⟨by omega, l1, l2⟩
  obtain ⟨g, p6, p13, st7, e7, ho, h7⟩ := oth_loop (K := K) (by omega) l2 (f := f) (o2 := o2) (o3 := some (nmD L)) (o4 := some f.d) (o7 := o7) (o8 := o8) (o9 := o9) (o10 := o10) (o11 := o11) (o12 := o12) (o14 := o14) (o15 := o15) (o16 := o16) (rngD 0 (1 + (t : Int))) f o6 o13 st6 f0 h6
  have ff : FmOk f L := ⟨by omega, by have := m1.2.1; omega, by have := m1.1; omega, fun s hs => l2 s (m1.2.2 s hs), m1.2.2⟩
  have gg : FmOk g L := ⟨by omega, by have := ho.deep; omega, by have := ho.size; omega, fun s hs => l2 s (ho.sub s hs), ho.sub⟩
  have s0 : evS (cfN tab K) (.asg (.nm 3) (.call F_law_names [(.var 1), (.bin .Add (.con (.int 1)) (.call F_law_draw [(.var 1), (.con (.int 4))]))])) (aE ns o2 o3 o4 o5 o6 o7 o8 o9 o10 o11 o12 o13 o14 o15 o16) st = some (.nx (aE ns o2 (some (nmD L)) o4 o5 o6 o7 o8 o9 o10 o11 o12 o13 o14 o15 o16), st2) := asg_ok (call_ok (args2 (var_ok rfl) (bin_ok (z := .int (1 + (m : Int))) x_con (call_ok (args2 (var_ok rfl) x_con) e1) rfl)) e2) rfl
  have s1 : evS (cfN tab K) (.asg (.nm 4) (.call F_law_made [(.var 1), (.var 3), (.bin .Add (.con (.int 1)) (.call F_law_draw [(.var 1), (.con (.int 12))])), (.call F_law_draw [(.var 1), (.con (.int 5))])])) (aE ns o2 (some (nmD L)) o4 o5 o6 o7 o8 o9 o10 o11 o12 o13 o14 o15 o16) st2 = some (.nx (aE ns o2 (some (nmD L)) (some f.d) o5 o6 o7 o8 o9 o10 o11 o12 o13 o14 o15 o16), st5) := by
    refine asg_ok (call_ok (ds := [.ref 1, nmD L, .int (1 + r2), .int (d : Int)]) ?_ e5) rfl
    rw [x_Es1, var_ok (d := .ref 1) rfl, R.bind_some, x_Es1, var_ok (d := nmD L) rfl, R.bind_some, x_Es1, bin_ok (z := .int (1 + r2)) x_con (call_ok (args2 (var_ok rfl) x_con) e3) rfl, R.bind_some, x_Es1, call_ok (args2 (var_ok rfl) x_con) e4, R.bind_some, x_Es0]
    rfl
  have s2 : evS (cfN tab K) (.asg (.nm 5) (.var 4)) (aE ns o2 (some (nmD L)) (some f.d) o5 o6 o7 o8 o9 o10 o11 o12 o13 o14 o15 o16) st5 = some (.nx (aE ns o2 (some (nmD L)) (some f.d) (some f.d) o6 o7 o8 o9 o10 o11 o12 o13 o14 o15 o16), st5) := asg_ok (var_ok (d := f.d) rfl) rfl
  have s3 : evS (cfN tab K) (.for_ (.nm 6) (.rng (.bin .Add (.con (.int 1)) (.call F_law_draw [(.var 1), (.con (.int 6))]))) [.asg (.nm 13) (.call F_law_turned [(.var 1), (.var 5)]), .asg (.nm 5) (.ite (.and [(.cmp .Lt (.call F_law_many [(.var 13)]) (.con (.int 50))), (.cmp .Lt (.call F_law_deep [(.var 13)]) (.con (.int 9)))]) (.var 13) (.var 5))]) (aE ns o2 (some (nmD L)) (some f.d) (some f.d) o6 o7 o8 o9 o10 o11 o12 o13 o14 o15 o16) st5 = some (.nx (aE ns o2 (some (nmD L)) (some f.d) (some g.d) (p6) o7 o8 o9 o10 o11 o12 (p13) o14 o15 o16), st7) := by
    have hi : evI (cfN tab K) ((.rng (.bin .Add (.con (.int 1)) (.call F_law_draw [(.var 1), (.con (.int 6))])))) (aE ns o2 (some (nmD L)) (some f.d) (some f.d) o6 o7 o8 o9 o10 o11 o12 o13 o14 o15 o16) st5 = some (rngD 0 (1 + (t : Int)), st6) := by
      rw [x_rng, bin_ok (z := .int (1 + (t : Int))) x_con (call_ok (args2 (var_ok rfl) x_con) e6) rfl, R.bind_some]
      exact if_pos (by rw [show 1 + (t : Int) = ((1 + t : Nat) : Int) by omega]; exact rng_le (by omega))
    rw [x_for, hi, R.bind_some]
    exact e7
  have s4 : evS (cfN tab K) (.asg (.nm 7) (.bi .tuple [(.var 3)])) (aE ns o2 (some (nmD L)) (some f.d) (some g.d) (p6) o7 o8 o9 o10 o11 o12 (p13) o14 o15 o16) st7 = some (.nx (aE ns o2 (some (nmD L)) (some f.d) (some g.d) (p6) (some (rowD L)) o8 o9 o10 o11 o12 (p13) o14 o15 o16), st7) := asg_ok (bi1_ok (var_ok (d := nmD L) rfl) rfl) rfl
  have d1 := differ_ok (k := K - 1) (st := st7) (by omega) ff gg ho.ev
  have d2 := differ_ok (k := K - 1) (st := st7) (by omega) gg ff fun ρ => (ho.ev ρ).symm
  rw [show K - 1 + 1 = K by omega] at d1 d2
  have is0 : ∀ {st : Store}, cmpD .IsNot st .non .non = some false := rfl
  have s5 : evS (cfN tab K) (.if_ (.or [(.cmp .IsNot (.call F_differ_at [(.var 4), (.var 5)]) (.con .non)), (.cmp .IsNot (.call F_differ_at [(.var 5), (.var 4)]) (.con .non))]) [.ret (.con (.bl false))] []) (aE ns o2 (some (nmD L)) (some f.d) (some g.d) (p6) (some (rowD L)) o8 o9 o10 o11 o12 (p13) o14 o15 o16) st7 = some (.nx (aE ns o2 (some (nmD L)) (some f.d) (some g.d) (p6) (some (rowD L)) o8 o9 o10 o11 o12 (p13) o14 o15 o16), st7) :=
    (if_f (ev_or2 (p := false) (q := false) (cmp_ok (call_ok (args2 (var_ok rfl) (var_ok rfl)) d1) x_con is0) (cmp_ok (call_ok (args2 (var_ok rfl) (var_ok rfl)) d2) x_con is0))).trans x_Ss0
  have q1 := rows_of_ok (k := K - 4) (st := st7) ff oo (by have := m1.2.1; omega)
  have q2 := rows_of_ok (k := K - 4) (st := st7) gg oo (by have := ho.deep; omega)
  rw [show K - 4 + 4 = K by omega] at q1 q2
  have eq : rowOk g = rowOk f := funext fun r => ho.ev _
  rw [eq] at q2
  have hA : RowsOk (srtR (subsL (srt L))) := by
    refine ⟨by rw [srtR_len, subsL_len, srt_len]; exact pw10 oo.len, fun r hr => ?_⟩
    have hs := (subsL_mem _ r).mp (srtR_mem.mp hr)
    exact ⟨by have := hs.length_le; rw [srt_len] at this; have := oo.len; omega, fun s hs' => l2 s (srt_mem.mp (hs.subset hs'))⟩
  have hrow : ∀ r ∈ srtR (subsL (srt L)), (r.Pairwise fun a b => leD (.str a) (.str b) = true) ∧ r.Nodup := fun r hr => by
    have hs := (subsL_mem _ r).mp (srtR_mem.mp hr)
    exact ⟨(srt_pw L).sublist hs, (srt_nodup l1).sublist hs⟩
  have hR : RowsOk ((srtR (subsL (srt L))).filter (rowOk f)) := ⟨Nat.le_trans (List.length_filter_le _ _) hA.1, fun r hr => hA.2 r (List.mem_filter.mp hr).1⟩
  obtain ⟨H1, w1, w2, w3⟩ := hangs_on_ok (k := K - 1) (st := st7) (by omega) ff
  obtain ⟨H2, x1, x2, x3⟩ := hangs_on_ok (k := K - 1) (st := st7) (by omega) gg
  rw [show K - 1 + 1 = K by omega] at w1 x1
  have hH : srt H2 = srt H1 := srt_uniq (srt_pw _) (srt_pw _) ((srt_perm _).trans (((List.perm_ext_iff_of_nodup x2 w2).mpr fun x => by rw [x3, w3, hangs_congr ho.ev]).trans (srt_perm _).symm))
  rw [hH] at x1
  have pH : Pl 1 (rowD (srt H1)) := pl_row fun s hs => (ff.nm s (hangs_mem ((w3 s).mp (srt_mem.mp hs)))).ok
  have s6 : evS (cfN tab K) (.if_ (.or [(.cmp .NotEq (.call F_rows_of [(.var 4), (.var 7)]) (.call F_rows_of [(.var 5), (.var 7)])), (.cmp .NotEq (.call F_hangs_on [(.var 4)]) (.call F_hangs_on [(.var 5)]))]) [.ret (.con (.bl false))] []) (aE ns o2 (some (nmD L)) (some f.d) (some g.d) (p6) (some (rowD L)) o8 o9 o10 o11 o12 (p13) o14 o15 o16) st7 = some (.nx (aE ns o2 (some (nmD L)) (some f.d) (some g.d) (p6) (some (rowD L)) o8 o9 o10 o11 o12 (p13) o14 o15 o16), st7) :=
    (if_f (ev_or2 (p := false) (q := false) (cmp_ok (call_ok (args2 (var_ok rfl) (var_ok rfl)) q1) (call_ok (args2 (var_ok rfl) (var_ok rfl)) q2) (cmp_ne_same (Pl.lst hR.pls) (by decide))) (cmp_ok (call_ok (args1 (var_ok rfl)) w1) (call_ok (args1 (var_ok rfl)) x1) (cmp_ne_same pH (by decide))))).trans x_Ss0
  have lr := lrows_okL (k := K - 1) (st := st7) oo
  rw [show K - 1 + 1 = K by omega] at lr
  have rl : (srtR (subsL (srt L))).length = 2 ^ L.length := by rw [srtR_len, subsL_len, srt_len]
  obtain ⟨dr, st8, e8, hd8, h8⟩ := one_ge (K := K) (by omega) (things := (srtR (subsL (srt L))).map rowD) (by rw [List.length_map, rl]; exact Nat.two_pow_pos _) (by
    rw [List.length_map, rl]
    exact Nat.le_trans (Nat.pow_le_pow_right (by decide) hLl) (by decide)) (fun d hd => by
    obtain ⟨r, hr, rfl⟩ := List.mem_map.mp hd
    exact (pl_row fun s hs => ((hA.2 r hr).2 s hs).ok).clean) h7
  obtain ⟨r8, hr8, rfl⟩ := List.mem_map.mp hd8
  have s7 : evS (cfN tab K) (.asg (.nm 8) (.call F_law_one [(.var 1), (.call F_law_rows [(.var 3)])])) (aE ns o2 (some (nmD L)) (some f.d) (some g.d) (p6) (some (rowD L)) o8 o9 o10 o11 o12 (p13) o14 o15 o16) st7 = some (.nx (aE ns o2 (some (nmD L)) (some f.d) (some g.d) (p6) (some (rowD L)) (some (rowD r8)) o9 o10 o11 o12 (p13) o14 o15 o16), st8) := asg_ok (call_ok (args2 (var_ok rfl) (call_ok (args1 (var_ok rfl)) lr)) e8) rfl
  have d3 := differ_ok (k := K - 1) (st := st8) (by omega) gg (xor_fm ff (by have := m1.1; omega) (by have := m1.2.1; omega)) (xor_ev ho.ev)
  rw [show K - 1 + 1 = K by omega] at d3
  have s8 : evS (cfN tab K) (.if_ (.cmp .IsNot (.call F_differ_at [(.var 5), (.tup [(.con (.str "xor")), (.var 4), (.tup [(.con (.str "if")), (.tup [(.con (.str "yes"))]), (.tup [(.con (.str "no"))]), (.tup [(.con (.str "no"))])])])]) (.con .non)) [.ret (.con (.bl false))] []) (aE ns o2 (some (nmD L)) (some f.d) (some g.d) (p6) (some (rowD L)) (some (rowD r8)) o9 o10 o11 o12 (p13) o14 o15 o16) st8 = some (.nx (aE ns o2 (some (nmD L)) (some f.d) (some g.d) (p6) (some (rowD L)) (some (rowD r8)) o9 o10 o11 o12 (p13) o14 o15 o16), st8) := by
    refine (if_f (cmp_ok (call_ok (args2 (var_ok rfl) (y := (Fm.bin 2 f (.ite .yes .no .no)).d) (st2 := st8) ?_) d3) x_con is0)).trans x_Ss0
    simp only [aE, x_var, x_con, x_glob, x_tup, x_lst, x_bin, x_neg, x_inv, x_cmp, x_not, x_ite, x_ix, x_sl, x_call, x_bi, x_Es0, x_Es1, x_O0, x_O1, x_C0, x_asg, x_par2, x_aug, x_if, x_ret, x_ex, x_never, x_Ss0, x_Ss1, R.bind_some, List.getElem?_cons_zero, List.getElem?_cons_succ, List.set_cons_zero, List.set_cons_succ, Option.map_some, List.map_cons, List.map_nil, List.replicate, List.cons_append, List.nil_append, List.append_nil, Nat.sub_self, asg_nm, asg_tup, asgs_nil, asgs_cons, List.length_cons, List.length_nil, rd'_int, rd'_str, rd'_tup, rd_lst', rd_bl, rd_non, rd_scr, t_bl, t_int, t_non, Nat.reduceAdd, Nat.reduceLT, reduceIte, and_self]
    rfl
  have y1 := is_yes_ok (k := K - 4) (st := st8) ff oo (r := r8) (fun s hs => (hA.2 r8 hr8).2 s hs) (hrow r8 hr8).1 (hrow r8 hr8).2 (by have := (hA.2 r8 hr8).1; omega) (by have := m1.2.1; omega)
  have y2 := yes_ok g r8 (fun x hx => (gg.nm x hx).ok) (fun x hx => ((hA.2 r8 hr8).2 x hx).ok) (by have := (hA.2 r8 hr8).1; have := ho.deep; omega) K (by have := ho.deep; omega) st8
  rw [show K - 4 + 4 = K by omega] at y1
  rw [eq] at y2
  have s9 : evS (cfN tab K) (.if_ (.cmp .NotEq (.bi .repr [(.call F_is_yes [(.var 4), (.var 8)])]) (.bi .repr [(.call F_law_yes [(.var 5), (.var 8)])])) [.ret (.con (.bl false))] []) (aE ns o2 (some (nmD L)) (some f.d) (some g.d) (p6) (some (rowD L)) (some (rowD r8)) o9 o10 o11 o12 (p13) o14 o15 o16) st8 = some (.nx (aE ns o2 (some (nmD L)) (some f.d) (some g.d) (p6) (some (rowD L)) (some (rowD r8)) o9 o10 o11 o12 (p13) o14 o15 o16), st8) := by
    refine (if_f (cmp_ok (z := false) (bi1_ok (call_ok (args2 (var_ok rfl) (var_ok rfl)) y1) repr_bl) (bi1_ok (call_ok (args2 (var_ok rfl) (var_ok rfl)) y2) repr_bl) ?_)).trans x_Ss0
    rw [cmp_ne_ss (boolT_ok _) (boolT_ok _), decide_eq_true rfl]
    rfl
  obtain ⟨F, st9, e9, f1, f2, f3, h9⟩ := names_ok (k := K - 5) (m := L.length) (by omega) h8
  rw [show K - 5 + 5 = K by omega] at e9
  have s10 : evS (cfN tab K) (.asg (.nm 9) (.call F_law_names [(.var 1), (.bi .len [(.var 3)])])) (aE ns o2 (some (nmD L)) (some f.d) (some g.d) (p6) (some (rowD L)) (some (rowD r8)) o9 o10 o11 o12 (p13) o14 o15 o16) st8 = some (.nx (aE ns o2 (some (nmD L)) (some f.d) (some g.d) (p6) (some (rowD L)) (some (rowD r8)) (some (nmD F)) o10 o11 o12 (p13) o14 o15 o16), st9) := by
    refine asg_ok (call_ok (args2 (var_ok rfl) (bi1_ok (var_ok rfl) bi_len)) (st1 := st8) ?_) rfl
    rw [List.length_map]
    exact e9
  have RN := sigma_ren l1 f1 f3
  have dc : evE (cfN tab K) ((.bi .dict [(.lc false (.tup [(.ix (.var 3) (.var 6)), (.ix (.var 9) (.var 6))]) (.nm 6) (.rng (.bi .len [(.var 3)])) none [6])])) (aE ns o2 (some (nmD L)) (some f.d) (some g.d) (p6) (some (rowD L)) (some (rowD r8)) (some (nmD F)) o10 o11 o12 (p13) o14 o15 o16) st9 = some (.ref st9.length, st9 ++ [.dK (L.map (kvσ (sigma L F)))]) := by
    refine bi1_ok (x := .lst (L.map (ptD (sigma L F)))) ?_ (dict_σ l1 (by omega))
    rw [← range_pts l1 f3]
    have hi : evI (cfN tab K) (.rng (.bi .len [(.var 3)])) (aE ns o2 (some (nmD L)) (some f.d) (some g.d) (p6) (some (rowD L)) (some (rowD r8)) (some (nmD F)) o10 o11 o12 (p13) o14 o15 o16) st9 = some ((List.range L.length).map fun (i : Nat) => D.int (i : Int), st9) := by
      rw [x_rng, bi1_ok (var_ok (d := nmD L) rfl) bi_len, R.bind_some, List.length_map, ← rngD_nat]
      exact if_pos (rng_le (by omega))
    refine x_lcm hi (lim10 (by rw [List.length_range]; omega)) fun i hi => ?_
    rw [List.mem_range] at hi
    refine ⟨(aE ns o2 (some (nmD L)) (some f.d) (some g.d) (some (.int (i : Int))) (some (rowD L)) (some (rowD r8)) (some (nmD F)) o10 o11 o12 (p13) o14 o15 o16), rfl, ?_⟩
    have i1 : ixD st9 (nmD L) (.int (i : Int)) = some (.str ((L[i]?).getD "")) := atI_nat (by rw [List.getElem?_map, List.getElem?_eq_getElem hi]; rfl)
    have i2 : ixD st9 (nmD F) (.int (i : Int)) = some (.str ((F[i]?).getD "")) := atI_nat (by rw [List.getElem?_map, List.getElem?_eq_getElem (by omega)]; rfl)
    simp only [aE, x_var, x_con, x_glob, x_tup, x_lst, x_bin, x_neg, x_inv, x_cmp, x_not, x_ite, x_ix, x_sl, x_call, x_bi, x_Es0, x_Es1, x_O0, x_O1, x_C0, x_asg, x_par2, x_aug, x_if, x_ret, x_ex, x_never, x_Ss0, x_Ss1, R.bind_some, List.getElem?_cons_zero, List.getElem?_cons_succ, List.set_cons_zero, List.set_cons_succ, Option.map_some, List.map_cons, List.map_nil, List.replicate, List.cons_append, List.nil_append, List.append_nil, Nat.sub_self, asg_nm, asg_tup, asgs_nil, asgs_cons, List.length_cons, List.length_nil, rd'_int, rd'_str, rd'_tup, rd_lst', rd_bl, rd_non, rd_scr, t_bl, t_int, t_non, Nat.reduceAdd, Nat.reduceLT, reduceIte, and_self, i1, i2]
  have hk : ∀ s ∈ L, lookK (L.map (kvσ (sigma L F))) (.inr s) = some (.str (sigma L F s)) := fun s hs => look_kv hs
  have cl := called_ok (st := st9 ++ [.dK (L.map (kvσ (sigma L F)))]) (l := st9.length) hk l2 top_at g ho.sub K (by have := ho.deep; omega)
  have s11 : evS (cfN tab K) (.asg (.nm 10) (.call F_law_called [(.var 5), (.bi .dict [(.lc false (.tup [(.ix (.var 3) (.var 6)), (.ix (.var 9) (.var 6))]) (.nm 6) (.rng (.bi .len [(.var 3)])) none [6])])])) (aE ns o2 (some (nmD L)) (some f.d) (some g.d) (p6) (some (rowD L)) (some (rowD r8)) (some (nmD F)) o10 o11 o12 (p13) o14 o15 o16) st9 = some (.nx (aE ns o2 (some (nmD L)) (some f.d) (some g.d) (p6) (some (rowD L)) (some (rowD r8)) (some (nmD F)) (some (g.ren (sigma L F)).d) o11 o12 (p13) o14 o15 o16), st9 ++ [.dK (L.map (kvσ (sigma L F)))]) := asg_ok (call_ok (args2 (var_ok rfl) dc) cl) rfl
  have h10 := h9.add [.dK (L.map (kvσ (sigma L F)))]
  generalize st9 ++ [.dK (L.map (kvσ (sigma L F)))] = st10 at *
  have q3 := rows_of_ok (k := K - 4) (st := st10) ff oo (by have := m1.2.1; omega)
  rw [show K - 4 + 4 = K by omega] at q3
  generalize hRS : (srtR (subsL (srt L))).filter (rowOk f) = RS at *
  have mem : ∀ r ∈ RS, ∀ s ∈ r, s ∈ L := fun r hr s hs => by
    rw [← hRS] at hr
    exact srt_mem.mp (((subsL_mem _ r).mp (srtR_mem.mp (List.mem_filter.mp hr).1)).subset hs)
  have FS : ∀ s ∈ L, sigma L F s ∈ F := fun s hs => by
    have : sigma L F s ∈ L.map (sigma L F) := List.mem_map.mpr ⟨s, hs, rfl⟩
    rw [RN.map] at this
    exact this
  generalize hD1 : RS.map (fun r => srt (r.map (sigma L F))) = D1
  have s12 : evS (cfN tab K) (.asg (.nm 11) (.lc false (.bi .tuple [(.bi .sorted [(.lc false (.ix (.var 9) (.mt .index (.var 3) [(.var 16)])) (.nm 16) (.seq (.var 14)) none [16])])]) (.nm 14) (.seq (.call F_rows_of [(.var 4), (.var 7)])) none [14])) (aE ns o2 (some (nmD L)) (some f.d) (some g.d) (p6) (some (rowD L)) (some (rowD r8)) (some (nmD F)) (some (g.ren (sigma L F)).d) o11 o12 (p13) o14 o15 o16) st10 = some (.nx (aE ns o2 (some (nmD L)) (some f.d) (some g.d) (p6) (some (rowD L)) (some (rowD r8)) (some (nmD F)) (some (g.ren (sigma L F)).d) (some (.lst (D1.map rowD))) o12 (p13) o14 o15 o16), st10) := by
    refine asg_ok (x := .lst (D1.map rowD)) ?_ rfl
    have hi : evI (cfN tab K) (.seq (.call F_rows_of [(.var 4), (.var 7)])) (aE ns o2 (some (nmD L)) (some f.d) (some g.d) (p6) (some (rowD L)) (some (rowD r8)) (some (nmD F)) (some (g.ren (sigma L F)).d) o11 o12 (p13) o14 o15 o16) st10 = some (RS.map rowD, st10) := by
      rw [x_seq, call_ok (args2 (var_ok rfl) (var_ok rfl)) q3]
      rfl
    have e : D1.map rowD = RS.map fun r => rowD (srt (r.map (sigma L F))) := by rw [← hD1, List.map_map]; rfl
    rw [e]
    refine x_lcm hi (lim10 (by have := hR.1; omega)) fun r hr => ⟨(aE ns o2 (some (nmD L)) (some f.d) (some g.d) (p6) (some (rowD L)) (some (rowD r8)) (some (nmD F)) (some (g.ren (sigma L F)).d) o11 o12 (p13) (some (rowD r)) o15 o16), rfl, ?_⟩
    have hrl : r.length ≤ 10 := (hR.2 r hr).1
    have so := sort_strs (ss := r.map (sigma L F)) (fun x hx => by
      obtain ⟨y, hy, rfl⟩ := List.mem_map.mp hx
      exact (f2 _ (FS y (mem r hr y hy))).ok) (lim10 (by rw [List.length_map]; omega))
    rw [srt_map] at so
    refine bi1_ok (x := .lst ((srt (r.map (sigma L F))).map D.str)) (bi1_ok (x := .lst ((r.map (sigma L F)).map D.str)) (st1 := st10) ?_ ?_) rfl
    · rw [List.map_map]
      have hi2 : evI (cfN tab K) (.seq (.var 14)) (aE ns o2 (some (nmD L)) (some f.d) (some g.d) (p6) (some (rowD L)) (some (rowD r8)) (some (nmD F)) (some (g.ren (sigma L F)).d) o11 o12 (p13) (some (rowD r)) o15 o16) st10 = some (r.map D.str, st10) := by
        rw [x_seq, var_ok (d := rowD r) rfl]
        rfl
      refine x_lcm (b := D.str ∘ sigma L F) hi2 (lim10 (by omega)) fun s hs => ⟨(aE ns o2 (some (nmD L)) (some f.d) (some g.d) (p6) (some (rowD L)) (some (rowD r8)) (some (nmD F)) (some (g.ren (sigma L F)).d) o11 o12 (p13) (some (rowD r)) o15 (some (.str s))), rfl, ?_⟩
      have hsL := mem r hr s hs
      have ix := idx_ok (st := st10) (l2 s hsL).ok (fun x hx => (l2 x hx).ok) hsL
      have lt := idx_lt hsL
      have i3 : ixD st10 (nmD F) (.int (L.idxOf s : Nat)) = some (.str (sigma L F s)) := atI_nat (by
        rw [List.getElem?_map, List.getElem?_eq_getElem (by omega)]
        unfold sigma
        rw [List.getElem?_eq_getElem (by omega)]
        rfl)
      rw [x_ix, var_ok (d := nmD F) rfl, R.bind_some, x_mt, var_ok (d := nmD L) rfl, R.bind_some, if_pos (show mtTy .index (nmD L) st10 = true from rfl), args1 (var_ok (d := .str s) rfl), R.bind_some, show mtD .index (nmD L) [.str s] st10 = _ from ix, R.bind_some, i3]
      rfl
    · show (sortD _).map _ = _
      rw [so]
      rfl
  have hD : RowsOk D1 := by
    refine ⟨by rw [← hD1, List.length_map]; exact hR.1, fun q hq => ?_⟩
    rw [← hD1] at hq
    obtain ⟨r, hr, rfl⟩ := List.mem_map.mp hq
    refine ⟨by rw [srt_len, List.length_map]; exact (hR.2 r hr).1, fun s hs => ?_⟩
    obtain ⟨y, hy, rfl⟩ := List.mem_map.mp (srt_mem.mp hs)
    exact f2 _ (FS y (mem r hr y hy))
  have k1 := keyed_ok (cf := cfN tab K) (st := st10) (rs := D1) (env := (aE ns o2 (some (nmD L)) (some f.d) (some g.d) (p6) (some (rowD L)) (some (rowD r8)) (some (nmD F)) (some (g.ren (sigma L F)).d) (some (.lst (D1.map rowD))) o12 (p13) o14 o15 o16)) (i := 11) (a := 14) (b := 14) rfl (by decide) (by simp [aE]) (fun r hr s hs => ((hD.2 r hr).2 s hs).ok) (lim10 (by have := hD.1; omega))
  have s13 : evS (cfN tab K) (.asg (.nm 12) (.bi .sorted [(.lc false (.tup [(.bi .len [(.var 14)]), (.var 14)]) (.nm 14) (.seq (.var 11)) none [14])])) (aE ns o2 (some (nmD L)) (some f.d) (some g.d) (p6) (some (rowD L)) (some (rowD r8)) (some (nmD F)) (some (g.ren (sigma L F)).d) (some (.lst (D1.map rowD))) o12 (p13) o14 o15 o16) st10 = some (.nx (aE ns o2 (some (nmD L)) (some f.d) (some g.d) (p6) (some (rowD L)) (some (rowD r8)) (some (nmD F)) (some (g.ren (sigma L F)).d) (some (.lst (D1.map rowD))) (some (.lst ((srtR D1).map keyR))) (p13) o14 o15 o16), st10) := asg_ok k1 rfl
  have k2 := unkey_ok (cf := cfN tab K) (st := st10) (rs := srtR D1) (env := (aE ns o2 (some (nmD L)) (some f.d) (some g.d) (p6) (some (rowD L)) (some (rowD r8)) (some (nmD F)) (some (g.ren (sigma L F)).d) (some (.lst (D1.map rowD))) (some (.lst ((srtR D1).map keyR))) (p13) o14 o15 o16)) (i := 12) (a := 15) (b := 14) (own := [14, 15]) rfl (by decide) (by simp [aE]) (by simp [aE]) (lim10 (by rw [srtR_len]; have := hD.1; omega))
  have oF : OrdOk F.reverse := ⟨by rw [List.length_reverse]; omega, (List.reverse_perm F).nodup_iff.mpr f1, fun s hs => f2 s (List.mem_reverse.mp hs)⟩
  have rr : FmOk (g.ren (sigma L F)) F.reverse := by
    have hn : ∀ s ∈ (g.ren (sigma L F)).names, s ∈ F := fun s hs => by
      rw [ren_names] at hs
      obtain ⟨y, hy, rfl⟩ := List.mem_map.mp hs
      exact FS y (ho.sub y hy)
    exact ⟨oF.len, by rw [ren_deep]; have := ho.deep; omega, by rw [ren_size]; have := ho.size; omega, fun s hs => f2 s (hn s hs), fun s hs => List.mem_reverse.mpr (hn s hs)⟩
  have q4 := rows_of_ok (k := K - 4) (st := st10) rr oF (by rw [ren_deep]; have := ho.deep; omega)
  rw [show K - 4 + 4 = K by omega, ← rows_called RN l1 f1 ho.sub ho.ev, hRS, hD1] at q4
  have hS : RowsOk (srtR D1) := ⟨by rw [srtR_len]; exact hD.1, fun r hr => hD.2 r (srtR_mem.mp hr)⟩
  have s14 : evS (cfN tab K) (.if_ (.cmp .NotEq (.call F_rows_of [(.var 10), (.bi .tuple [(.rev (.var 9))])]) (.lc false (.var 14) (.tup [15, 14]) (.seq (.var 12)) none [14, 15])) [.ret (.con (.bl false))] []) (aE ns o2 (some (nmD L)) (some f.d) (some g.d) (p6) (some (rowD L)) (some (rowD r8)) (some (nmD F)) (some (g.ren (sigma L F)).d) (some (.lst (D1.map rowD))) (some (.lst ((srtR D1).map keyR))) (p13) o14 o15 o16) st10 = some (.nx (aE ns o2 (some (nmD L)) (some f.d) (some g.d) (p6) (some (rowD L)) (some (rowD r8)) (some (nmD F)) (some (g.ren (sigma L F)).d) (some (.lst (D1.map rowD))) (some (.lst ((srtR D1).map keyR))) (p13) o14 o15 o16), st10) := by
    have rv : evE (cfN tab K) (.bi .tuple [(.rev (.var 9))]) (aE ns o2 (some (nmD L)) (some f.d) (some g.d) (p6) (some (rowD L)) (some (rowD r8)) (some (nmD F)) (some (g.ren (sigma L F)).d) (some (.lst (D1.map rowD))) (some (.lst ((srtR D1).map keyR))) (p13) o14 o15 o16) st10 = some (rowD F.reverse, st10) := by
      have rv0 : evE (cfN tab K) (.rev (.var 9)) (aE ns o2 (some (nmD L)) (some f.d) (some g.d) (p6) (some (rowD L)) (some (rowD r8)) (some (nmD F)) (some (g.ren (sigma L F)).d) (some (.lst (D1.map rowD))) (some (.lst ((srtR D1).map keyR))) (p13) o14 o15 o16) st10 = some (nmD F.reverse, st10) := by
        rw [evE, var_ok (d := nmD F) rfl, R.bind_some]
        show some (D.lst (F.map D.str).reverse, st10) = _
        rw [← List.map_reverse]
        rfl
      exact bi1_ok rv0 rfl
    exact (if_f (cmp_ok (z := false) (call_ok (args2 (var_ok rfl) rv) q4) k2 (cmp_ne_same (Pl.lst hS.pls) (by decide)))).trans x_Ss0
  exact ⟨_, _, _, _, _, _, _, _, _, _, _, _, _, _, _, _, by rw [Ss_nx s0, Ss_nx s1, Ss_nx s2, Ss_nx s3, Ss_nx s4, Ss_nx s5, Ss_nx s6, Ss_nx s7, Ss_nx s8, Ss_nx s9, Ss_nx s10, Ss_nx s11, Ss_nx s12, Ss_nx s13, Ss_nx s14, x_Ss0], h10⟩
theorem law_loop (hK : 22 ≤ K) : ∀ (ds : List D) (o2 o3 o4 o5 o6 o7 o8 o9 o10 o11 o12 o13 o14 o15 o16 : Option D) (rest st : Store), Sx ns rest st → ∃ (o2' o3' o4' o5' o6' o7' o8' o9' o10' o11' o12' o13' o14' o15' o16' : Option D) (rest' st' : Store), evFor (.nm 2) (fun env st => evSs (cfN tab K) ([.asg (.nm 3) (.call F_law_names [(.var 1), (.bin .Add (.con (.int 1)) (.call F_law_draw [(.var 1), (.con (.int 4))]))]), .asg (.nm 4) (.call F_law_made [(.var 1), (.var 3), (.bin .Add (.con (.int 1)) (.call F_law_draw [(.var 1), (.con (.int 12))])), (.call F_law_draw [(.var 1), (.con (.int 5))])]), .asg (.nm 5) (.var 4), .for_ (.nm 6) (.rng (.bin .Add (.con (.int 1)) (.call F_law_draw [(.var 1), (.con (.int 6))]))) [.asg (.nm 13) (.call F_law_turned [(.var 1), (.var 5)]), .asg (.nm 5) (.ite (.and [(.cmp .Lt (.call F_law_many [(.var 13)]) (.con (.int 50))), (.cmp .Lt (.call F_law_deep [(.var 13)]) (.con (.int 9)))]) (.var 13) (.var 5))], .asg (.nm 7) (.bi .tuple [(.var 3)]), .if_ (.or [(.cmp .IsNot (.call F_differ_at [(.var 4), (.var 5)]) (.con .non)), (.cmp .IsNot (.call F_differ_at [(.var 5), (.var 4)]) (.con .non))]) [.ret (.con (.bl false))] [], .if_ (.or [(.cmp .NotEq (.call F_rows_of [(.var 4), (.var 7)]) (.call F_rows_of [(.var 5), (.var 7)])), (.cmp .NotEq (.call F_hangs_on [(.var 4)]) (.call F_hangs_on [(.var 5)]))]) [.ret (.con (.bl false))] [], .asg (.nm 8) (.call F_law_one [(.var 1), (.call F_law_rows [(.var 3)])]), .if_ (.cmp .IsNot (.call F_differ_at [(.var 5), (.tup [(.con (.str "xor")), (.var 4), (.tup [(.con (.str "if")), (.tup [(.con (.str "yes"))]), (.tup [(.con (.str "no"))]), (.tup [(.con (.str "no"))])])])]) (.con .non)) [.ret (.con (.bl false))] [], .if_ (.cmp .NotEq (.bi .repr [(.call F_is_yes [(.var 4), (.var 8)])]) (.bi .repr [(.call F_law_yes [(.var 5), (.var 8)])])) [.ret (.con (.bl false))] [], .asg (.nm 9) (.call F_law_names [(.var 1), (.bi .len [(.var 3)])]), .asg (.nm 10) (.call F_law_called [(.var 5), (.bi .dict [(.lc false (.tup [(.ix (.var 3) (.var 6)), (.ix (.var 9) (.var 6))]) (.nm 6) (.rng (.bi .len [(.var 3)])) none [6])])]), .asg (.nm 11) (.lc false (.bi .tuple [(.bi .sorted [(.lc false (.ix (.var 9) (.mt .index (.var 3) [(.var 16)])) (.nm 16) (.seq (.var 14)) none [16])])]) (.nm 14) (.seq (.call F_rows_of [(.var 4), (.var 7)])) none [14]), .asg (.nm 12) (.bi .sorted [(.lc false (.tup [(.bi .len [(.var 14)]), (.var 14)]) (.nm 14) (.seq (.var 11)) none [14])]), .if_ (.cmp .NotEq (.call F_rows_of [(.var 10), (.bi .tuple [(.rev (.var 9))])]) (.lc false (.var 14) (.tup [15, 14]) (.seq (.var 12)) none [14, 15])) [.ret (.con (.bl false))] []]) env st) ds (aE ns o2 o3 o4 o5 o6 o7 o8 o9 o10 o11 o12 o13 o14 o15 o16) st = some (.nx (aE ns (o2') (o3') (o4') (o5') (o6') (o7') (o8') (o9') (o10') (o11') (o12') (o13') (o14') (o15') (o16')), st') ∧ Sx ns rest' st'
  | [], o2, o3, o4, o5, o6, o7, o8, o9, o10, o11, o12, o13, o14, o15, o16, rest, st, h => ⟨o2, o3, o4, o5, o6, o7, o8, o9, o10, o11, o12, o13, o14, o15, o16, rest, st, rfl, h⟩
  | d :: ds, o2, o3, o4, o5, o6, o7, o8, o9, o10, o11, o12, o13, o14, o15, o16, rest, st, h => by
    obtain ⟨p3, p4, p5, p6, p7, p8, p9, p10, p11, p12, p13, p14, p15, p16, rest1, st1, e1, h1⟩ := law_turn (K := K) hK (o2 := some d) (o3 := o3) (o4 := o4) (o5 := o5) (o6 := o6) (o7 := o7) (o8 := o8) (o9 := o9) (o10 := o10) (o11 := o11) (o12 := o12) (o13 := o13) (o14 := o14) (o15 := o15) (o16 := o16) h
    obtain ⟨q2, q3, q4, q5, q6, q7, q8, q9, q10, q11, q12, q13, q14, q15, q16, rest2, st2, e2, h2⟩ := law_loop hK ds (some d) p3 p4 p5 p6 p7 p8 p9 p10 p11 p12 p13 p14 p15 p16 rest1 st1 h1
    refine ⟨q2, q3, q4, q5, q6, q7, q8, q9, q10, q11, q12, q13, q14, q15, q16, rest2, st2, ?_, h2⟩
    rw [evFor]
    show R.bind (evSs (cfN tab K) _ (aE ns (some d) o3 o4 o5 o6 o7 o8 o9 o10 o11 o12 o13 o14 o15 o16) st) _ = _
    rw [e1, R.bind_some]
    exact e2
end
/-! ### the state as it begins -/
def begD : D → D
  | .int i => .int (if 1000000000000000000 ≤ i then i else 0)
  | d => d
theorem begun_ok {k : Nat} {ns : List Int} (hl : ns.length ≤ 1000) : ∃ st, cfN tab (k + 1) F_law_begun [.scr ns] [] = some (.ref 1, st) ∧ Sx ns [] st := by
  refine ⟨DS ns (ns.map fun i => if 1000000000000000000 ≤ i then i else 0) 0 [], ?_, ⟨_, 0, by rw [List.length_map], by decide, rfl⟩⟩
  have hi : evI (cfN tab k) (.seq (.var 0)) [some (.scr ns), none] [] = some (ns.map D.int, []) := by
    rw [x_seq, var_ok (d := .scr ns) rfl]
    rfl
  have lc : evE (cfN tab k) (.lc true (.ite (.cmp .GtE (.var 1) (.bin .Pow (.con (.int 10)) (.con (.int 18)))) (.var 1) (.con (.int 0))) (.nm 1) (.seq (.var 0)) none [1]) [some (.scr ns), none] [] = some (.ref 0, [.lst ((ns.map fun i => if 1000000000000000000 ≤ i then i else 0).map D.int)]) := by
    have hb : (ns.map D.int).filterMap (fun d => some (begD d)) = (ns.map fun i => if 1000000000000000000 ≤ i then i else 0).map D.int := by
      rw [show (fun d => some (begD d)) = some ∘ begD from rfl, List.filterMap_eq_map, List.map_map, List.map_map]
      rfl
    have hu : ∀ l : List Int, D.unds 0 (l.map D.int) = true := fun l => by
      induction l with
      | nil => rfl
      | cons a l ih => rw [List.map_cons, D.unds, ih]; rfl
    rw [x_lc, hi, R.bind_some, lc_pure (g := fun d => some (begD d)) (fun d hd => ?_), R.bind_some, hb]
    · rw [if_pos (lim10 (by rw [List.length_map, List.length_map]; omega)), if_pos rfl]
      exact if_pos (hu _)
    · obtain ⟨i, hi, rfl⟩ := List.mem_map.mp hd
      rw [lcF_no (env1 := [some (.scr ns), some (.int i)]) rfl, x_C0, R.bind_some, if_pos rfl]
      have pw : binD .Pow (.int 10) (.int 18) = some (.int 1000000000000000000) := by kernel_rfl
      have cm : cmpD .GtE [] (.int i) (.int 1000000000000000000) = some (decide (1000000000000000000 ≤ i)) := by
        show some (!decide (i < 1000000000000000000)) = _
        rw [← decide_not]
        congr 1
        exact decide_eq_decide.mpr (by omega)
      by_cases hp : 1000000000000000000 ≤ i
      · simp only [x_var, x_con, x_glob, x_tup, x_lst, x_bin, x_neg, x_inv, x_cmp, x_not, x_ite, x_ix, x_sl, x_call, x_bi, x_Es0, x_Es1, x_O0, x_O1, x_C0, x_asg, x_par2, x_aug, x_if, x_ret, x_ex, x_never, x_Ss0, x_Ss1, R.bind_some, List.getElem?_cons_zero, List.getElem?_cons_succ, List.set_cons_zero, List.set_cons_succ, Option.map_some, List.map_cons, List.map_nil, List.replicate, List.cons_append, List.nil_append, List.append_nil, Nat.sub_self, asg_nm, asg_tup, asgs_nil, asgs_cons, List.length_cons, List.length_nil, rd'_int, rd'_str, rd'_tup, rd_lst', rd_bl, rd_non, rd_scr, t_bl, t_int, t_non, Nat.reduceAdd, Nat.reduceLT, reduceIte, and_self, pw, cm, decide_eq_true hp, begD, if_pos hp]
      · simp only [x_var, x_con, x_glob, x_tup, x_lst, x_bin, x_neg, x_inv, x_cmp, x_not, x_ite, x_ix, x_sl, x_call, x_bi, x_Es0, x_Es1, x_O0, x_O1, x_C0, x_asg, x_par2, x_aug, x_if, x_ret, x_ex, x_never, x_Ss0, x_Ss1, R.bind_some, List.getElem?_cons_zero, List.getElem?_cons_succ, List.set_cons_zero, List.set_cons_succ, Option.map_some, List.map_cons, List.map_nil, List.replicate, List.cons_append, List.nil_append, List.append_nil, Nat.sub_self, asg_nm, asg_tup, asgs_nil, asgs_cons, List.length_cons, List.length_nil, rd'_int, rd'_str, rd'_tup, rd_lst', rd_bl, rd_non, rd_scr, t_bl, t_int, t_non, Nat.reduceAdd, Nat.reduceLT, reduceIte, and_self, pw, cm, decide_eq_false hp, begD, if_neg hp]
  rw [run_def (f := ir_law_begun) rfl]
  unfold runF
  rw [if_pos (show [D.scr ns].length = ir_law_begun.np from rfl)]
  have e : evSs (cfN tab k) ir_law_begun.body [some (.scr ns), none] [] = some (.rt (.ref 1), DS ns (ns.map fun i => if 1000000000000000000 ≤ i then i else 0) 0 []) := by
    show evSs (cfN tab k) [_] _ _ = _
    refine Ss_rt (ret_ok ?_)
    rw [x_ndic, x_Es1, var_ok (d := .scr ns) rfl, R.bind_some, x_Es1, lc, R.bind_some, x_Es1, x_con, R.bind_some, x_Es0, R.bind_some, R.bind_some, R.bind_some, R.bind_some]
    kernel_rfl
  rw [show ([D.scr ns].map some ++ List.replicate (ir_law_begun.nn - ir_law_begun.np) none) = [some (.scr ns), none] from rfl, e]
  rfl
theorem plain (ns : List Int) (h : ns.length ≤ 63) : ∃ st, cfN tab 24 F_law [.scr ns] [] = some (.bl true, st) := by
  obtain ⟨st1, e1, h1⟩ := begun_ok (k := 22) (ns := ns) (by omega)
  obtain ⟨o2, o3, o4, o5, o6, o7, o8, o9, o10, o11, o12, o13, o14, o15, o16, rest, st2, e2, h2⟩ := law_loop (ns := ns) (K := 23) (by omega) (rngD 0 ((1 + min 15 ns.length : Nat) : Int)) none none none none none none none none none none none none none none none  [] st1 h1
  refine ⟨st2.take 0, ?_⟩
  have mn : biD .min [.int 15, .int ns.length] st1 = some (.int ((min 15 ns.length : Nat) : Int), st1) := by
    show some (D.int (if (ns.length : Int) < 15 then (ns.length : Int) else 15), st1) = _
    congr 3
    split <;> omega
  refine run_c (f := ir_law) rfl rfl (st1 := st2) ?_ rfl
  show evSs (cfN tab 23) [_, _, _] [some (.scr ns), none, none, none, none, none, none, none, none, none, none, none, none, none, none, none, none] [] = _
  have s1 : evS (cfN tab 23) (.asg (.nm 1) (.call F_law_begun [(.var 0)])) [some (.scr ns), none, none, none, none, none, none, none, none, none, none, none, none, none, none, none, none] [] = some (.nx (aE ns none none none none none none none none none none none none none none none ), st1) := asg_ok (call_ok (args1 (var_ok rfl)) e1) rfl
  have s2 : evS (cfN tab 23) (.for_ (.nm 2) (.rng (.bin .Add (.con (.int 1)) (.bi .min [(.con (.int 15)), (.bi .len [(.var 0)])]))) [.asg (.nm 3) (.call F_law_names [(.var 1), (.bin .Add (.con (.int 1)) (.call F_law_draw [(.var 1), (.con (.int 4))]))]), .asg (.nm 4) (.call F_law_made [(.var 1), (.var 3), (.bin .Add (.con (.int 1)) (.call F_law_draw [(.var 1), (.con (.int 12))])), (.call F_law_draw [(.var 1), (.con (.int 5))])]), .asg (.nm 5) (.var 4), .for_ (.nm 6) (.rng (.bin .Add (.con (.int 1)) (.call F_law_draw [(.var 1), (.con (.int 6))]))) [.asg (.nm 13) (.call F_law_turned [(.var 1), (.var 5)]), .asg (.nm 5) (.ite (.and [(.cmp .Lt (.call F_law_many [(.var 13)]) (.con (.int 50))), (.cmp .Lt (.call F_law_deep [(.var 13)]) (.con (.int 9)))]) (.var 13) (.var 5))], .asg (.nm 7) (.bi .tuple [(.var 3)]), .if_ (.or [(.cmp .IsNot (.call F_differ_at [(.var 4), (.var 5)]) (.con .non)), (.cmp .IsNot (.call F_differ_at [(.var 5), (.var 4)]) (.con .non))]) [.ret (.con (.bl false))] [], .if_ (.or [(.cmp .NotEq (.call F_rows_of [(.var 4), (.var 7)]) (.call F_rows_of [(.var 5), (.var 7)])), (.cmp .NotEq (.call F_hangs_on [(.var 4)]) (.call F_hangs_on [(.var 5)]))]) [.ret (.con (.bl false))] [], .asg (.nm 8) (.call F_law_one [(.var 1), (.call F_law_rows [(.var 3)])]), .if_ (.cmp .IsNot (.call F_differ_at [(.var 5), (.tup [(.con (.str "xor")), (.var 4), (.tup [(.con (.str "if")), (.tup [(.con (.str "yes"))]), (.tup [(.con (.str "no"))]), (.tup [(.con (.str "no"))])])])]) (.con .non)) [.ret (.con (.bl false))] [], .if_ (.cmp .NotEq (.bi .repr [(.call F_is_yes [(.var 4), (.var 8)])]) (.bi .repr [(.call F_law_yes [(.var 5), (.var 8)])])) [.ret (.con (.bl false))] [], .asg (.nm 9) (.call F_law_names [(.var 1), (.bi .len [(.var 3)])]), .asg (.nm 10) (.call F_law_called [(.var 5), (.bi .dict [(.lc false (.tup [(.ix (.var 3) (.var 6)), (.ix (.var 9) (.var 6))]) (.nm 6) (.rng (.bi .len [(.var 3)])) none [6])])]), .asg (.nm 11) (.lc false (.bi .tuple [(.bi .sorted [(.lc false (.ix (.var 9) (.mt .index (.var 3) [(.var 16)])) (.nm 16) (.seq (.var 14)) none [16])])]) (.nm 14) (.seq (.call F_rows_of [(.var 4), (.var 7)])) none [14]), .asg (.nm 12) (.bi .sorted [(.lc false (.tup [(.bi .len [(.var 14)]), (.var 14)]) (.nm 14) (.seq (.var 11)) none [14])]), .if_ (.cmp .NotEq (.call F_rows_of [(.var 10), (.bi .tuple [(.rev (.var 9))])]) (.lc false (.var 14) (.tup [15, 14]) (.seq (.var 12)) none [14, 15])) [.ret (.con (.bl false))] []]) (aE ns none none none none none none none none none none none none none none none ) st1 = some (.nx (aE ns o2 o3 o4 o5 o6 o7 o8 o9 o10 o11 o12 o13 o14 o15 o16), st2) := by
    have hi : evI (cfN tab 23) ((.rng (.bin .Add (.con (.int 1)) (.bi .min [(.con (.int 15)), (.bi .len [(.var 0)])])))) (aE ns none none none none none none none none none none none none none none none ) st1 = some (rngD 0 ((1 + min 15 ns.length : Nat) : Int), st1) := by
      have e : evE (cfN tab 23) (.bin .Add (.con (.int 1)) (.bi .min [(.con (.int 15)), (.bi .len [(.var 0)])])) (aE ns none none none none none none none none none none none none none none none ) st1 = some (.int ((1 + min 15 ns.length : Nat) : Int), st1) := by
        simp only [aE, x_var, x_con, x_glob, x_tup, x_lst, x_bin, x_neg, x_inv, x_cmp, x_not, x_ite, x_ix, x_sl, x_call, x_bi, x_Es0, x_Es1, x_O0, x_O1, x_C0, x_asg, x_par2, x_aug, x_if, x_ret, x_ex, x_never, x_Ss0, x_Ss1, R.bind_some, List.getElem?_cons_zero, List.getElem?_cons_succ, List.set_cons_zero, List.set_cons_succ, Option.map_some, List.map_cons, List.map_nil, List.replicate, List.cons_append, List.nil_append, List.append_nil, Nat.sub_self, asg_nm, asg_tup, asgs_nil, asgs_cons, List.length_cons, List.length_nil, rd'_int, rd'_str, rd'_tup, rd_lst', rd_bl, rd_non, rd_scr, t_bl, t_int, t_non, Nat.reduceAdd, Nat.reduceLT, reduceIte, and_self, len_scr, mn, d_add]
        rw [show ((1 + min 15 ns.length : Nat) : Int) = 1 + ((min 15 ns.length : Nat) : Int) by omega]
      rw [x_rng, e, R.bind_some]
      exact if_pos (rng_le (by omega))
    rw [x_for, hi, R.bind_some]
    exact e2
  rw [Ss_nx s1, Ss_nx s2]
  exact Ss_rt (ret_ok x_con)
end Kw

set_option Elab.async false
set_option linter.all false
set_option maxRecDepth 100000
namespace Kw
open PySem PySem.Spec PyProof.Rows L2
theorem roomK : Room 24 callerA := ⟨rfl, by decide, by decide⟩
end Kw
open PySem PySem.W PyProof.Rows Kw L2
set_option maxHeartbeats 0 in
theorem PySem.Challenge.cw_knotweb_k08_whole_same_by_rules_holds : PySem.Challenge.rw_knotweb_k08_whole_same_by_rules.Holds := by
  w_on; o_law; k_head; (case hw => w_witness2)
  k_fill
  refine Kw.walk_run (l := PySem.Challenge.rw_knotweb_k08_whole_same_by_rules) (n := 63) (k := 24) (x := "script") (sp := fun K => OpN K (cfN tab 24 F_law)) rfl (by decide) rfl roomK (fun w h Y => PySem.W.kIn_of Y) ?F (fun w H a ns hl hS => ?S)
  case S =>
    obtain ⟨st, e⟩ := Kw.plain ns hl
    exact sp_law hS e
  case F =>
    intro w mg fa h KX G hmg
    refine Kw.law_mk (i := F_law) (r := fr_law) KX G rfl rfl ck_all hmg ?cs ?ds ?bs ?fs
    case cs =>
      unfold Kw.con
      refine' .cons (con_str KX G ?ua0 ?ue0) ?_
      (case ua0 => k_is); (case ue0 => decide +kernel)
      refine' .cons (con_int KX G ?ua1) ?_
      (case ua1 => k_is)
      refine' .cons (con_int KX G ?ua2) ?_
      (case ua2 => k_is)
      refine' .cons (con_int KX G ?ua3) ?_
      (case ua3 => k_is)
      refine' .cons (con_int KX G ?ua4) ?_
      (case ua4 => k_is)
      refine' .cons (con_strs (ss := ["some", "all", "put"]) KX G ?ua5 ?ul5 ?uc5 ?ud5 ?uz5 ?uv5) ?_
      (case ua5 => k_is); (case ul5 => k_is); (case uc5 => rfl); (case ud5 => rfl); (case uz5 => decide); (case uv5 => decide +kernel)
      refine' .cons (con_strs (ss := ["and", "or", "xor"]) KX G ?ua6 ?ul6 ?uc6 ?ud6 ?uz6 ?uv6) ?_
      (case ua6 => k_is); (case ul6 => k_is); (case uc6 => rfl); (case ud6 => rfl); (case uz6 => decide); (case uv6 => decide +kernel)
      exact .nil
    case ds =>
      intro p hp
      rw [show p = _ from List.mem_singleton.mp hp]
      refine' ⟨_, mg_of KX G ?da1, ktab_of ?dl1 ?dk1 ?dw1 ?de1⟩
      (case da1 => k_is); (case dl1 => k_is)
      (case dk1 => repeat (first | exact trivial | refine ⟨⟨_, _, rfl, rfl⟩, ?_⟩))
      (case dw1 => decide)
      (case de1 => kernel_rfl)
    case bs =>
      refine Kw.blt_all ?_
      intro y hy
      simp only [List.mem_cons, List.not_mem_nil, or_false] at hy
      rcases hy with rfl | rfl | rfl | rfl | rfl | rfl | rfl | rfl | rfl | rfl | rfl | rfl | rfl | rfl | rfl | rfl | rfl | rfl | rfl <;> k_is
    case fs =>
      refine' FFs.cons (ff_mk (r := fr_is_name) KX G ?fa0 ?fl0 ?fc0 ?fk0 fun _ _ _ _ _ _ us hl => match us, hl with | [_], _ => rfl) ?_
      (case fa0 => k_is); (case fl0 => k_is); (case fc0 => k_is); (case fk0 => k_is)
      refine' FFs.cons (ff_mk (r := fr_is_row) KX G ?fa1 ?fl1 ?fc1 ?fk1 fun _ _ _ _ _ _ us hl => match us, hl with | [_], _ => rfl) ?_
      (case fa1 => k_is); (case fl1 => k_is); (case fc1 => k_is); (case fk1 => k_is)
      refine' FFs.cons (ff_mk (r := fr_has_form) KX G ?fa2 ?fl2 ?fc2 ?fk2 fun _ _ _ _ _ _ us hl => match us, hl with | [_], _ => rfl) ?_
      (case fa2 => k_is); (case fl2 => k_is); (case fc2 => k_is); (case fk2 => k_is)
      refine' FFs.cons (ff_mk (r := fr_own_parts) KX G ?fa3 ?fl3 ?fc3 ?fk3 fun _ _ _ _ _ _ us hl => match us, hl with | [_], _ => rfl) ?_
      (case fa3 => k_is); (case fl3 => k_is); (case fc3 => k_is); (case fk3 => k_is)
      refine' FFs.cons (ff_mk (r := fr_walked) KX G ?fa4 ?fl4 ?fc4 ?fk4 fun _ _ _ _ _ _ us hl => match us, hl with | [_], _ => rfl) ?_
      (case fa4 => k_is); (case fl4 => k_is); (case fc4 => k_is); (case fk4 => k_is)
      refine' FFs.cons (ff_mk (r := fr_need_formula) KX G ?fa5 ?fl5 ?fc5 ?fk5 fun _ _ _ _ _ _ us hl => match us, hl with | [_], _ => rfl) ?_
      (case fa5 => k_is); (case fl5 => k_is); (case fc5 => k_is); (case fk5 => k_is)
      refine' FFs.cons (ff_mk (r := fr_need_order) KX G ?fa6 ?fl6 ?fc6 ?fk6 fun _ _ _ _ _ _ us hl => match us, hl with | [_], _ => rfl) ?_
      (case fa6 => k_is); (case fl6 => k_is); (case fc6 => k_is); (case fk6 => k_is)
      refine' FFs.cons (ff_mk (r := fr_names_in) KX G ?fa7 ?fl7 ?fc7 ?fk7 fun _ _ _ _ _ _ us hl => match us, hl with | [_], _ => rfl) ?_
      (case fa7 => k_is); (case fl7 => k_is); (case fc7 => k_is); (case fk7 => k_is)
      refine' FFs.cons (ff_mk (r := fr_mask_of) KX G ?fa8 ?fl8 ?fc8 ?fk8 fun _ _ _ _ _ _ us hl => match us, hl with | [_, _], _ => rfl) ?_
      (case fa8 => k_is); (case fl8 => k_is); (case fc8 => k_is); (case fk8 => k_is)
      refine' FFs.cons (ff_mk (r := fr_sides_of) KX G ?fa9 ?fl9 ?fc9 ?fk9 fun _ _ _ _ _ _ us hl => match us, hl with | [_, _, _], _ => rfl) ?_
      (case fa9 => k_is); (case fl9 => k_is); (case fc9 => k_is); (case fk9 => k_is)
      refine' FFs.cons (ff_mk (r := fr_whole_of) KX G ?fa10 ?fl10 ?fc10 ?fk10 fun _ _ _ _ _ _ us hl => match us, hl with | [_], _ => rfl) ?_
      (case fa10 => k_is); (case fl10 => k_is); (case fc10 => k_is); (case fk10 => k_is)
      refine' FFs.cons (ff_mk (r := fr_leaf_truths) KX G ?fa11 ?fl11 ?fc11 ?fk11 fun _ _ _ _ _ _ us hl => match us, hl with | [_, _], _ => rfl) ?_
      (case fa11 => k_is); (case fl11 => k_is); (case fc11 => k_is); (case fk11 => k_is)
      refine' FFs.cons (ff_mk (r := fr_joint_truths) KX G ?fa12 ?fl12 ?fc12 ?fk12 fun _ _ _ _ _ _ us hl => match us, hl with | [_, _, _], _ => rfl) ?_
      (case fa12 => k_is); (case fl12 => k_is); (case fc12 => k_is); (case fk12 => k_is)
      refine' FFs.cons (ff_mk (r := fr_truths_of) KX G ?fa13 ?fl13 ?fc13 ?fk13 fun _ _ _ _ _ _ us hl => match us, hl with | [_, _], _ => rfl) ?_
      (case fa13 => k_is); (case fl13 => k_is); (case fc13 => k_is); (case fk13 => k_is)
      refine' FFs.cons (ff_mk (r := fr_row_at) KX G ?fa14 ?fl14 ?fc14 ?fk14 fun _ _ _ _ _ _ us hl => match us, hl with | [_, _], _ => rfl) ?_
      (case fa14 => k_is); (case fl14 => k_is); (case fc14 => k_is); (case fk14 => k_is)
      refine' FFs.cons (ff_mk (r := fr_number_of) KX G ?fa15 ?fl15 ?fc15 ?fk15 fun _ _ _ _ _ _ us hl => match us, hl with | [_, _], _ => rfl) ?_
      (case fa15 => k_is); (case fl15 => k_is); (case fc15 => k_is); (case fk15 => k_is)
      refine' FFs.cons (ff_mk (r := fr_rows_in) KX G ?fa16 ?fl16 ?fc16 ?fk16 fun _ _ _ _ _ _ us hl => match us, hl with | [_, _], _ => rfl) ?_
      (case fa16 => k_is); (case fl16 => k_is); (case fc16 => k_is); (case fk16 => k_is)
      refine' FFs.cons (ff_mk (r := fr_is_yes) KX G ?fa17 ?fl17 ?fc17 ?fk17 fun _ _ _ _ _ _ us hl => match us, hl with | [_, _], _ => rfl) ?_
      (case fa17 => k_is); (case fl17 => k_is); (case fc17 => k_is); (case fk17 => k_is)
      refine' FFs.cons (ff_mk (r := fr_rows_of) KX G ?fa18 ?fl18 ?fc18 ?fk18 fun _ _ _ _ _ _ us hl => match us, hl with | [_, _], _ => rfl) ?_
      (case fa18 => k_is); (case fl18 => k_is); (case fc18 => k_is); (case fk18 => k_is)
      refine' FFs.cons (ff_mk (r := fr_hung_names) KX G ?fa19 ?fl19 ?fc19 ?fk19 fun _ _ _ _ _ _ us hl => match us, hl with | [_], _ => rfl) ?_
      (case fa19 => k_is); (case fl19 => k_is); (case fc19 => k_is); (case fk19 => k_is)
      refine' FFs.cons (ff_mk (r := fr_hangs_on) KX G ?fa20 ?fl20 ?fc20 ?fk20 fun _ _ _ _ _ _ us hl => match us, hl with | [_], _ => rfl) ?_
      (case fa20 => k_is); (case fl20 => k_is); (case fc20 => k_is); (case fk20 => k_is)
      refine' FFs.cons (ff_mk (r := fr_differ_at) KX G ?fa21 ?fl21 ?fc21 ?fk21 fun _ _ _ _ _ _ us hl => match us, hl with | [_, _], _ => rfl) ?_
      (case fa21 => k_is); (case fl21 => k_is); (case fc21 => k_is); (case fk21 => k_is)
      refine' FFs.cons (ff_mk (r := fr_law_mixed) KX G ?fa22 ?fl22 ?fc22 ?fk22 fun _ _ _ _ _ _ us hl => match us, hl with | [_, _], _ => rfl) ?_
      (case fa22 => k_is); (case fl22 => k_is); (case fc22 => k_is); (case fk22 => k_is)
      refine' FFs.cons (ff_mk (r := fr_law_begun) KX G ?fa23 ?fl23 ?fc23 ?fk23 fun _ _ _ _ _ _ us hl => match us, hl with | [_], _ => rfl) ?_
      (case fa23 => k_is); (case fl23 => k_is); (case fc23 => k_is); (case fk23 => k_is)
      refine' FFs.cons (ff_mk (r := fr_law_draw) KX G ?fa24 ?fl24 ?fc24 ?fk24 fun _ _ _ _ _ _ us hl => match us, hl with | [_, _], _ => rfl) ?_
      (case fa24 => k_is); (case fl24 => k_is); (case fc24 => k_is); (case fk24 => k_is)
      refine' FFs.cons (ff_mk (r := fr_law_one) KX G ?fa25 ?fl25 ?fc25 ?fk25 fun _ _ _ _ _ _ us hl => match us, hl with | [_, _], _ => rfl) ?_
      (case fa25 => k_is); (case fl25 => k_is); (case fc25 => k_is); (case fk25 => k_is)
      refine' FFs.cons (ff_mk (r := fr_law_word) KX G ?fa26 ?fl26 ?fc26 ?fk26 fun _ _ _ _ _ _ us hl => match us, hl with | [_], _ => rfl) ?_
      (case fa26 => k_is); (case fl26 => k_is); (case fc26 => k_is); (case fk26 => k_is)
      refine' FFs.cons (ff_mk (r := fr_law_names) KX G ?fa27 ?fl27 ?fc27 ?fk27 fun _ _ _ _ _ _ us hl => match us, hl with | [_, _], _ => rfl) ?_
      (case fa27 => k_is); (case fl27 => k_is); (case fc27 => k_is); (case fk27 => k_is)
      refine' FFs.cons (ff_mk (r := fr_law_rooms) KX G ?fa28 ?fl28 ?fc28 ?fk28 fun _ _ _ _ _ _ us hl => match us, hl with | [_, _, _], _ => rfl) ?_
      (case fa28 => k_is); (case fl28 => k_is); (case fc28 => k_is); (case fk28 => k_is)
      refine' FFs.cons (ff_mk (r := fr_law_made) KX G ?fa29 ?fl29 ?fc29 ?fk29 fun _ _ _ _ _ _ us hl => match us, hl with | [_, _, _, _], _ => rfl) ?_
      (case fa29 => k_is); (case fl29 => k_is); (case fc29 => k_is); (case fk29 => k_is)
      refine' FFs.cons (ff_mk (r := fr_law_with) KX G ?fa30 ?fl30 ?fc30 ?fk30 fun _ _ _ _ _ _ us hl => match us, hl with | [_, _, _], _ => rfl) ?_
      (case fa30 => k_is); (case fl30 => k_is); (case fc30 => k_is); (case fk30 => k_is)
      refine' FFs.cons (ff_mk (r := fr_law_yes) KX G ?fa31 ?fl31 ?fc31 ?fk31 fun _ _ _ _ _ _ us hl => match us, hl with | [_, _], _ => rfl) ?_
      (case fa31 => k_is); (case fl31 => k_is); (case fc31 => k_is); (case fk31 => k_is)
      refine' FFs.cons (ff_mk (r := fr_law_rows) KX G ?fa32 ?fl32 ?fc32 ?fk32 fun _ _ _ _ _ _ us hl => match us, hl with | [_], _ => rfl) ?_
      (case fa32 => k_is); (case fl32 => k_is); (case fc32 => k_is); (case fk32 => k_is)
      refine' FFs.cons (ff_mk (r := fr_law_own) KX G ?fa33 ?fl33 ?fc33 ?fk33 fun _ _ _ _ _ _ us hl => match us, hl with | [_], _ => rfl) ?_
      (case fa33 => k_is); (case fl33 => k_is); (case fc33 => k_is); (case fk33 => k_is)
      refine' FFs.cons (ff_mk (r := fr_law_put_in) KX G ?fa34 ?fl34 ?fc34 ?fk34 fun _ _ _ _ _ _ us hl => match us, hl with | [_, _, _], _ => rfl) ?_
      (case fa34 => k_is); (case fl34 => k_is); (case fc34 => k_is); (case fk34 => k_is)
      refine' FFs.cons (ff_mk (r := fr_law_contrary) KX G ?fa35 ?fl35 ?fc35 ?fk35 fun _ _ _ _ _ _ us hl => match us, hl with | [_], _ => rfl) ?_
      (case fa35 => k_is); (case fl35 => k_is); (case fc35 => k_is); (case fk35 => k_is)
      refine' FFs.cons (ff_mk (r := fr_law_other) KX G ?fa36 ?fl36 ?fc36 ?fk36 fun _ _ _ _ _ _ us hl => match us, hl with | [_, _], _ => rfl) ?_
      (case fa36 => k_is); (case fl36 => k_is); (case fc36 => k_is); (case fk36 => k_is)
      refine' FFs.cons (ff_mk (r := fr_law_turned) KX G ?fa37 ?fl37 ?fc37 ?fk37 fun _ _ _ _ _ _ us hl => match us, hl with | [_, _], _ => rfl) ?_
      (case fa37 => k_is); (case fl37 => k_is); (case fc37 => k_is); (case fk37 => k_is)
      refine' FFs.cons (ff_mk (r := fr_law_called) KX G ?fa38 ?fl38 ?fc38 ?fk38 fun _ _ _ _ _ _ us hl => match us, hl with | [_, _], _ => rfl) ?_
      (case fa38 => k_is); (case fl38 => k_is); (case fc38 => k_is); (case fk38 => k_is)
      refine' FFs.cons (ff_mk (r := fr_law_many) KX G ?fa39 ?fl39 ?fc39 ?fk39 fun _ _ _ _ _ _ us hl => match us, hl with | [_], _ => rfl) ?_
      (case fa39 => k_is); (case fl39 => k_is); (case fc39 => k_is); (case fk39 => k_is)
      refine' FFs.cons (ff_mk (r := fr_law_deep) KX G ?fa40 ?fl40 ?fc40 ?fk40 fun _ _ _ _ _ _ us hl => match us, hl with | [_], _ => rfl) ?_
      (case fa40 => k_is); (case fl40 => k_is); (case fc40 => k_is); (case fk40 => k_is)
      refine' FFs.cons (ff_mk (r := fr_law) KX G ?fa41 ?fl41 ?fc41 ?fk41 fun _ _ _ _ _ _ us hl => match us, hl with | [_], _ => rfl) ?_
      (case fa41 => k_is); (case fl41 => k_is); (case fc41 => k_is); (case fk41 => k_is)
      exact .nil
