import PyProof.Rows.All
import Wide.All
import OpenK.AllK
import Wide.FinOn
import HandS.ForMost
import HandS.ForExc
import HandS.Walk
import HandS.Wide
import HandS.Flow
import HandS.CallSlots
import HandS.IsInst
import HandS.SortInts
import HandS.TupAny
import HandS.Style
import HandS.More
import HandS.DictComp
import KE.KSortTupG
import HandS.ExcIs
import HandS.TryOnly
import HandS.SetFor
import HandS.EndBits
import HandS.Text
import PySem.Challenge.RW_stampcourse_k04_stamps_taken_out
set_option Elab.async false
set_option linter.all false
set_option maxRecDepth 100000
set_option maxRecDepth 100000
/-! ## 1. Data as trees, a store of the lists and dicts that may still change, a small language, and what it does -/
namespace PV
open PySem L2

/-- data that never changes any more -/
inductive T where
  | non | bl (b : Bool) | int (i : Int) | str (s : Str)
  | lst (xs : List T) | tup (xs : List T) | dic (kvs : List (Key × T))
  /-- a list that is only read: the script, a list of the text's top -/
  | rol (xs : List T)
  /-- an exception that was caught, by its class -/
  | exn (c : String)

/-- a value: data, or one of the store's objects -/
inductive RV where
  | t (x : T) | o (i : Nat)

/-- an object: fixed for good, a list, a dict -/
inductive SO where
  | frz (x : T) | lst (xs : List T) | dic (kvs : List (Key × T))

abbrev Store := List SO
abbrev En := List (Option RV)

structure Exc where
  cls : String
  fld : Option T

inductive R (α : Type) where
  | ok (a : α) (S : Store)
  | exc (x : Exc) (S : Store)
  | fail

namespace R
def bind {α β : Type} (r : R α) (f : α → Store → R β) : R β :=
  match r with
  | .ok a S => f a S
  | .exc x S => .exc x S
  | .fail => .fail
section
variable {α β γ : Type} {a : α} {S : Store} {x : Exc} {f : α → Store → R β} {g : β → Store → R γ} {r : R α}
@[simp] theorem bind_ok : (R.ok a S).bind f = f a S := rfl
@[simp] theorem bind_exc : (R.exc (α := α) x S).bind f = .exc x S := rfl
@[simp] theorem bind_fail : (R.fail (α := α)).bind f = .fail := rfl
theorem bind_bind : (r.bind f).bind g = r.bind fun a S => (f a S).bind g := by cases r <;> rfl
end
end R

def SO.tree : SO → T
  | .frz x => x
  | .lst xs => .lst xs
  | .dic kvs => .dic kvs
/-- what a value holds now -/
def vw (S : Store) : RV → Option T
  | .t x => some x
  | .o i => (S[i]?).map SO.tree
/-- a value is fixed for good (it goes into another one) -/
def fz (S : Store) : RV → Option (T × Store)
  | .t x => some (x, S)
  | .o i => match S[i]? with
    | some so => some (so.tree, S.set i (.frz so.tree))
    | none => none
/-- many, from the left -/
def fzs (S : Store) : List RV → Option (List T × Store)
  | [] => some ([], S)
  | v :: vs => match fz S v with
    | some (x, S1) => match fzs S1 vs with
      | some (xs, S2) => some (x :: xs, S2)
      | none => none
    | none => none
/-- a fixed object is its data -/
def nrm (S : Store) : RV → RV
  | .t x => .t x
  | .o i => match S[i]? with
    | some (.frz x) => .t x
    | _ => .o i

/-! ### dicts -/
section
variable {κ α : Type} [DecidableEq κ]
def dget (kvs : List (κ × α)) (k : κ) : Option α := (kvs.find? fun kv => decide (kv.1 = k)).map (·.2)
def dput (kvs : List (κ × α)) (k : κ) (v : α) : List (κ × α) :=
  if (kvs.any fun kv => decide (kv.1 = k)) = true then kvs.map (fun kv => if kv.1 = k then (kv.1, v) else kv) else kvs ++ [(k, v)]
def ddrop (kvs : List (κ × α)) (k : κ) : List (κ × α) := kvs.filter fun kv => decide (kv.1 ≠ k)
end
def keyOf : T → Option Key
  | .int i => some (.inl i)
  | .str s => some (.inr s)
  | _ => none
def ofKey : Key → T
  | .inl i => .int i
  | .inr s => .str s

/-! ### equality, order, truth -/
mutual
def teq : T → T → Bool
  | .non, .non => true
  | .bl a, .bl b => a == b
  | .bl a, .int j => (if a then 1 else 0) == j
  | .int i, .bl b => i == (if b then 1 else 0)
  | .int i, .int j => i == j
  | .str x, .str y => x == y
  | .lst xs, .lst ys => teqs xs ys
  | .tup xs, .tup ys => teqs xs ys
  | _, _ => false
def teqs : List T → List T → Bool
  | [], [] => true
  | x :: xs, y :: ys => teq x y && teqs xs ys
  | _, _ => false
end
mutual
/-- no dict within, nested below n, texts of signs that are such -/
def low : Nat → T → Bool
  | _, .non => true
  | _, .bl _ => true
  | _, .int _ => true
  | _, .str s => PyData.strOk s
  | n, .lst xs => lows n xs
  | n, .tup xs => lows n xs
  | _, .dic _ => false
  | _, .rol _ => false
  | _, .exn _ => false
def lows : Nat → List T → Bool
  | 0, _ => false
  | n + 1, [] => true
  | n + 1, x :: xs => low n x && lows (n + 1) xs
end
/-- plain: none, truths, ints, texts -/
def T.flat : T → Bool
  | .non => true
  | .bl _ => true
  | .int _ => true
  | .str _ => true
  | _ => false
/-- two plain values that are compared by themselves -/
def scalT : T → T → Bool
  | .non, y => y.flat
  | .int _, .non => true | .int _, .int _ => true | .int _, .str _ => true
  | .bl _, .non => true | .bl _, .bl _ => true | .bl _, .str _ => true
  | .str _, .non => true | .str _, .int _ => true | .str _, .bl _ => true | .str _, .str _ => true
  | _, _ => false
def truth : T → Bool
  | .non => false
  | .bl b => b
  | .int i => i != 0
  | .str s => (s.length : Int) != 0
  | .lst xs => !xs.isEmpty
  | .tup xs => !xs.isEmpty
  | .dic kvs => !kvs.isEmpty
  | .rol xs => !xs.isEmpty
  | .exn _ => true

/-! ### the language -/
inductive O0 where
  | lst | dic
inductive O1 where
  | neg | len | abs | int_ | str_ | list_ | tuple_ | dict_ | sorted_ | sum_ | max_ | min_ | all_ | any_
  | isi (ts : List String)
  | ise (cs ts : List String)
  | rev | all_of | pop | clear | reverse
inductive O2 where
  | add | sub | mul | fdiv | mod | pow
  | eq | ne | lt | le | gt | ge | isin | notin | isn | notn
  | max2 | min2 | idx | sfrom | sto
  | append | extend | join | popAt | count
inductive O3 where
  | slice | insert | get
inductive I1 where
  | val | range | enum | items | rev
inductive I2 where
  | range2 | zip

inductive Tg where
  | nm (i : Nat) | tp (is : List Nat)

mutual
inductive E where
  | var (i : Nat)
  | cst (x : T)
  | glb (x : String)
  | op0 (o : O0)
  | op1 (o : O1) (a : E)
  | op2 (o : O2) (a b : E)
  | op3 (o : O3) (a b c : E)
  | and (a b : E)
  | or (a b : E)
  | not (a : E)
  | ite (c a b : E)
  | chain (o p : O2) (a b c : E)
  | call (f : String) (as : Es)
  | tup (as : Es)
  | lst (as : Es)
  | dct (ks : List Str) (vs : Es)
  | comp (own : List Nat) (elt : E) (tg : Tg) (it : It) (cond : E)
inductive Es where
  | nil
  | cons (a : E) (r : Es)
inductive It where
  | one (o : I1) (a : E)
  | two (o : I2) (a b : E)
end
mutual
inductive Sm where
  | ex (e : E)
  | asg (tg : Tg) (e : E)
  | sset (o i v : E)
  | ret (e : E)
  | ret0
  | ite (c : E) (a b : Ss)
  | for_ (tg : Tg) (it : It) (body : Ss)
  | whl (c : E) (body : Ss)
  | raise (cls : String)
  | tryK (body : Ss) (cs : List String) (cls : String) (n m : Nat)
  | cont
  | brk
inductive Ss where
  | nil
  | cons (s : Sm) (r : Ss)
end
/-- how a statement ends -/
inductive Fl where
  | nx | ret (v : RV) | brk | cont | exc (x : Exc)

end PV

set_option maxRecDepth 100000
/-! ## 2. What the language does -/
namespace PV
open PySem L2

abbrev ret (x : T) (S : Store) : R RV := .ok (.t x) S
abbrev alloc (so : SO) (S : Store) : R RV := .ok (.o S.length) (S ++ [so])

/-! ### sorting -/
def insI (x : Int) : List Int → List Int
  | [] => [x]
  | y :: ys => if x ≤ y then x :: y :: ys else y :: insI x ys
def sortI : List Int → List Int
  | [] => []
  | x :: xs => insI x (sortI xs)
def insS (x : Str) : List Str → List Str
  | [] => [x]
  | y :: ys => if Spec.ltCps y.cps.toList x.cps.toList then y :: insS x ys else x :: y :: ys
def sortS : List Str → List Str
  | [] => []
  | x :: xs => insS x (sortS xs)
def ints? : List T → Option (List Int)
  | [] => some []
  | .int i :: r => (ints? r).map (i :: ·)
  | _ :: _ => none
def strs? : List T → Option (List Str)
  | [] => some []
  | .str i :: r => (strs? r).map (i :: ·)
  | _ :: _ => none
def bls? : List T → Option (List Bool)
  | [] => some []
  | .bl i :: r => (bls? r).map (i :: ·)
  | _ :: _ => none
/-! tuples of ints and texts -/
def itK : T → Int ⊕ List Nat
  | .int i => .inl i
  | .str s => .inr s.cps.toList
  | _ => .inl 0
def shT (shape : Nat → Bool) : Nat → List T → Bool
  | _, [] => true
  | i, .int _ :: r => !shape i && shT shape (i + 1) r
  | i, .str _ :: r => shape i && shT shape (i + 1) r
  | _, _ :: _ => false
def shOf (xs : List T) (i : Nat) : Bool := match xs[i]? with
  | some (.str _) => true
  | _ => false
def tups? : List T → Option (List (List T))
  | [] => some []
  | .tup xs :: r => (tups? r).map (xs :: ·)
  | _ :: _ => none
def alikeT : List (List T) → Bool
  | [] => true
  | x :: xs => (x :: xs).all fun y => !y.isEmpty && shT (shOf x) 0 y
/-- one before another, as tuples are -/
def ltT (x y : List T) : Bool := PyProof.Rows.lexLt PyProof.Rows.itemOrd (x.map itK) (y.map itK)
def insT (x : List T) : List (List T) → List (List T)
  | [] => [x]
  | y :: ys => if ltT y x then y :: insT x ys else x :: y :: ys
def sortT : List (List T) → List (List T)
  | [] => []
  | x :: xs => insT x (sortT xs)
/-- pairs of a key and a value -/
def pairs? : List T → Option (List (Key × T))
  | [] => some []
  | .tup [a, b] :: r => match keyOf a, pairs? r with
    | some k, some ps => some ((k, b) :: ps)
    | _, _ => none
  | _ :: _ => none
def mergeT (more kvs : List (Key × T)) : List (Key × T) := more.foldl (fun acc kv => dput acc kv.1 kv.2) kvs
/-- two plain dicts that hold the same -/
def flatEq : T → T → Bool
  | .non, .non => true
  | .bl a, .bl b => a == b
  | .int a, .int b => a == b
  | .str a, .str b => a == b
  | _, _ => false
def sameD (ks ls : List (Key × T)) : Bool := decide (ks.length = ls.length) && ks.all fun kv => match dget ls kv.1 with
  | some y => flatEq kv.2 y
  | none => false
def eqD : T → T → Option Bool
  | .dic ks, .dic ls => if sameD ks ls then some true else none
  | _, _ => none
def eqT (a b : T) : Option Bool := if scalT a b || (low 60 a && low 60 b) then some (teq a b) else eqD a b
def maxI : Int → List Int → Int
  | m, [] => m
  | m, x :: xs => maxI (if x > m then x else m) xs
def minI : Int → List Int → Int
  | m, [] => m
  | m, x :: xs => minI (if x < m then x else m) xs

/-- the items of a list or a tuple -/
def seq? : T → Option (List T)
  | .lst xs => some xs
  | .tup xs => some xs
  | _ => none
/-- its type's name -/
def T.ty : T → String
  | .non => "NoneType" | .bl _ => "bool" | .int _ => "int" | .str _ => "str" | .lst _ => "list" | .tup _ => "tuple" | .dic _ => "dict" | .rol _ => "list" | .exn _ => "exn"
/-- whether a built-in type stands below another one -/
def below (a b : String) : Bool := a == b || (a == "bool" && b == "int")
/-- whether an own exception's class stands below another class -/
def exB (c d : String) : Bool := c == d || d == "ValueError" || d == "RunError"
def known (b : String) : Bool := ["bool", "int", "str", "list", "tuple", "dict"].contains b

def s0 : O0 → Store → R RV
  | .lst, S => alloc (.lst []) S
  | .dic, S => alloc (.dic []) S
/-- one value -/
def s1 (o : O1) (v : RV) (S : Store) : R RV :=
  match o with
  | .neg => match v with
    | .t (.int i) => ret (.int (-i)) S
    | _ => .fail
  | .len => match vw S v with
    | some (.str s) => if s.length ≤ sizeLine then ret (.int s.length) S else .fail
    | some (.lst xs) => ret (.int xs.length) S
    | some (.tup xs) => ret (.int xs.length) S
    | some (.dic kvs) => ret (.int kvs.length) S
    | some (.rol xs) => ret (.int xs.length) S
    | _ => .fail
  | .abs => match v with
    | .t (.int i) => ret (.int (if i < 0 then -i else i)) S
    | _ => .fail
  | .int_ => match v with
    | .t (.int i) => ret (.int i) S
    | .t (.bl b) => ret (.int (if b then 1 else 0)) S
    | _ => .fail
  | .str_ => match v with
    | .t (.int i) => if i.natAbs.log2 < 1920 then ret (.str (toString i)) S else .fail
    | _ => .fail
  | .list_ => match vw S v with
    | some (.lst xs) => alloc (.lst xs) S
    | some (.tup xs) => alloc (.lst xs) S
    | some (.rol xs) => alloc (.lst xs) S
    | _ => .fail
  | .tuple_ => match vw S v with
    | some (.lst xs) => ret (.tup xs) S
    | some (.tup xs) => ret (.tup xs) S
    | _ => .fail
  | .sorted_ => match vw S v with
    | some (.lst xs) => match ints? xs with
      | some ns => alloc (.lst ((sortI ns).map T.int)) S
      | none => match strs? xs with
        | some ss => if ss.length < 64 then alloc (.lst ((sortS ss).map T.str)) S else .fail
        | none => match tups? xs with
          | some ts => if alikeT ts then alloc (.lst ((sortT ts).map T.tup)) S else .fail
          | none => .fail
    | _ => .fail
  | .dict_ => match vw S v with
    | some (.dic kvs) => alloc (.dic kvs) S
    | some (.lst xs) => match pairs? xs with
      | some ps => alloc (.dic (mergeT ps [])) S
      | none => .fail
    | _ => .fail
  | .sum_ => match vw S v with
    | some (.lst xs) => match ints? xs with
      | some ns => ret (.int ns.sum) S
      | none => .fail
    | _ => .fail
  | .max_ => match vw S v with
    | some (.lst xs) => match ints? xs with
      | some (n :: ns) => ret (.int (maxI n ns)) S
      | _ => .fail
    | _ => .fail
  | .min_ => match vw S v with
    | some (.lst xs) => match ints? xs with
      | some (n :: ns) => ret (.int (minI n ns)) S
      | _ => .fail
    | _ => .fail
  | .all_ => match vw S v with
    | some (.lst xs) => match bls? xs with
      | some bs => ret (.bl (bs.all id)) S
      | none => .fail
    | _ => .fail
  | .any_ => match vw S v with
    | some (.lst xs) => match bls? xs with
      | some bs => ret (.bl (bs.any id)) S
      | none => .fail
    | _ => .fail
  | .ise cs ts => match v with
    | .t (.exn c) => if cs.contains c then ret (.bl (ts.any (exB c))) S else .fail
    | _ => .fail
  | .isi ts => match vw S v with
    | some (.exn _) => .fail
    | some x => ret (.bl (ts.any (below x.ty))) S
    | none => .fail
  | .rev => match vw S v with
    | some (.lst xs) => alloc (.lst xs.reverse) S
    | some (.tup xs) => ret (.tup xs.reverse) S
    | _ => .fail
  | .all_of => match vw S v with
    | some (.lst xs) => alloc (.lst xs) S
    | _ => .fail
  | .pop => match v with
    | .o i => match S[i]? with
      | some (.lst xs) => match xs[xs.length - 1]? with
        | some y => .ok (.t y) (S.set i (.lst xs.dropLast))
        | none => .fail
      | _ => .fail
    | _ => .fail
  | .clear => match v with
    | .o i => match S[i]? with
      | some (.lst _) => .ok (.t .non) (S.set i (.lst []))
      | _ => .fail
    | _ => .fail
  | .reverse => match v with
    | .o i => match S[i]? with
      | some (.lst xs) => .ok (.t .non) (S.set i (.lst xs.reverse))
      | _ => .fail
    | _ => .fail

def inT (x : T) (xs : List T) : Bool := xs.any fun y => teq y x
/-- x in c -/
def inC (S : Store) (v c : RV) : Option Bool :=
  match vw S c with
  | some (.str s) => match v with
    | .t (.str z) => some (!(Builtin.Str.occurrences s z 0 s.length 1).isEmpty)
    | _ => none
  | some (.lst xs) => match v with
    | .t x => if x.flat && xs.all T.flat then some (inT x xs) else none
    | _ => none
  | some (.tup xs) => match v with
    | .t x => if x.flat && xs.all T.flat then some (inT x xs) else none
    | _ => none
  | some (.dic kvs) => match v with
    | .t x => (keyOf x).map fun k => (dget kvs k).isSome
    | _ => none
  | _ => none
/-- the place that an index of any sign means -/
def strAt (s : Str) (i : Int) : Option Str := (atI s.cps.toList i).map fun c => ⟨#[c]⟩
def cutT (xs : List T) (lo hi : Option Int) : List T := (xs.drop (HT.sIx xs.length 0 lo)).take (HT.sIx xs.length xs.length hi - HT.sIx xs.length 0 lo)
/-- x[lo:hi] -/
def slc (S : Store) (v : RV) (lo hi : Option Int) : R RV :=
  match vw S v with
  | some (.str s) => if s.length ≤ sizeLine then ret (.str (cutS s lo hi)) S else .fail
  | some (.lst xs) => alloc (.lst (cutT xs lo hi)) S
  | some (.tup xs) => ret (.tup (cutT xs lo hi)) S
  | _ => .fail
def mulOk (i j : Int) : Bool := decide (i.natAbs < 2 ^ 250 ∧ j.natAbs < 2 ^ 250)

/-- two values -/
def s2 (o : O2) (v u : RV) (S : Store) : R RV :=
  match o with
  | .add => match vw S v, vw S u with
    | some (.int i), some (.int j) => ret (.int (i + j)) S
    | some (.str x), some (.str y) => if x.length + y.length ≤ sizeLine then ret (.str (x ++ y)) S else .fail
    | some (.lst xs), some (.lst ys) => if xs.length + ys.length ≤ sizeLine then alloc (.lst (xs ++ ys)) S else .fail
    | some (.tup xs), some (.tup ys) => if xs.length + ys.length ≤ sizeLine then ret (.tup (xs ++ ys)) S else .fail
    | _, _ => .fail
  | .sub => match v, u with
    | .t (.int i), .t (.int j) => ret (.int (i - j)) S
    | _, _ => .fail
  | .mul => match vw S v, vw S u with
    | some (.int i), some (.int j) => if mulOk i j then ret (.int (i * j)) S else .fail
    | some (.lst xs), some (.int k) => if -(2 ^ 63) ≤ k ∧ k < 2 ^ 63 ∧ xs.length * k.toNat ≤ sizeLine then alloc (.lst (List.replicate k.toNat xs).flatten) S else .fail
    | _, _ => .fail
  | .fdiv => match v, u with
    | .t (.int i), .t (.int j) => if 0 < j ∧ j < 2 ^ 250 then ret (.int (i / j)) S else .fail
    | _, _ => .fail
  | .mod => match v, u with
    | .t (.int i), .t (.int j) => if 0 < j then ret (.int (i % j)) S else .fail
    | _, _ => .fail
  | .pow => match v, u with
    | .t (.int i), .t (.int j) => if 0 ≤ j ∧ j ≤ 1000000 ∧ i.natAbs < 2 ^ 64 then ret (.int (i ^ j.toNat)) S else .fail
    | _, _ => .fail
  | .eq => match vw S v, vw S u with
    | some a, some b => match eqT a b with
      | some k => ret (.bl k) S
      | none => .fail
    | _, _ => .fail
  | .ne => match vw S v, vw S u with
    | some a, some b => match eqT a b with
      | some k => ret (.bl (!k)) S
      | none => .fail
    | _, _ => .fail
  | .lt => match v, u with
    | .t (.int i), .t (.int j) => ret (.bl (decide (i < j))) S
    | .t (.str i), .t (.str j) => ret (.bl (decide (i.cps.toList < j.cps.toList))) S
    | _, _ => .fail
  | .le => match v, u with
    | .t (.int i), .t (.int j) => ret (.bl (decide (i ≤ j))) S
    | _, _ => .fail
  | .gt => match v, u with
    | .t (.int i), .t (.int j) => ret (.bl (decide (j < i))) S
    | _, _ => .fail
  | .ge => match v, u with
    | .t (.int i), .t (.int j) => ret (.bl (decide (j ≤ i))) S
    | _, _ => .fail
  | .isin => match inC S v u with
    | some b => ret (.bl b) S
    | none => .fail
  | .notin => match inC S v u with
    | some b => ret (.bl (!b)) S
    | none => .fail
  | .isn => match v, u with
    | .t .non, .t .non => ret (.bl true) S
    | .t _, .t .non => ret (.bl false) S
    | .o _, .t .non => ret (.bl false) S
    | _, _ => .fail
  | .notn => match v, u with
    | .t .non, .t .non => ret (.bl false) S
    | .t _, .t .non => ret (.bl true) S
    | .o _, .t .non => ret (.bl true) S
    | _, _ => .fail
  | .max2 => match v, u with
    | .t (.int i), .t (.int j) => ret (.int (if j > i then j else i)) S
    | _, _ => .fail
  | .min2 => match v, u with
    | .t (.int i), .t (.int j) => ret (.int (if j < i then j else i)) S
    | _, _ => .fail
  | .idx => match vw S v, u with
    | some (.lst xs), .t (.int i) => match atI xs i with
      | some x => ret x S
      | none => .fail
    | some (.tup xs), .t (.int i) => match atI xs i with
      | some x => ret x S
      | none => .fail
    | some (.rol xs), .t (.int i) => match atI xs i with
      | some x => ret x S
      | none => .fail
    | some (.str s), .t (.int i) => if s.length ≤ sizeLine then match strAt s i with
      | some x => ret (.str x) S
      | none => .fail
      else .fail
    | some (.dic kvs), .t x => match keyOf x with
      | some k => match dget kvs k with
        | some y => ret y S
        | none => .fail
      | none => .fail
    | _, _ => .fail
  | .sfrom => match u with
    | .t (.int i) => slc S v (some i) none
    | _ => .fail
  | .sto => match u with
    | .t (.int i) => slc S v none (some i)
    | _ => .fail
  | .append => match v with
    | .o i => match fz S u with
      | some (y, S1) => match S1[i]? with
        | some (.lst xs) => if xs.length < sizeLine then .ok (.t .non) (S1.set i (.lst (xs ++ [y]))) else .fail
        | _ => .fail
      | none => .fail
    | _ => .fail
  | .extend => match v with
    | .o i => match S[i]?, vw S u with
      | some (.lst xs), some (.lst ys) => if xs.length + ys.length ≤ sizeLine then .ok (.t .non) (S.set i (.lst (xs ++ ys))) else .fail
      | _, _ => .fail
    | _ => .fail
  | .join => match v, vw S u with
    | .t (.str z), some (.lst xs) => match strs? xs with
      | some ss => if (ss.map (·.length)).sum + ss.length * z.length ≤ 16777216 then ret (.str (Txt.join z ss)) S else .fail
      | none => .fail
    | _, _ => .fail
  | .popAt => match v, u with
    | .o i, .t (.int k) => match S[i]? with
      | some (.lst xs) => if -(2 ^ 63) ≤ k ∧ k < 2 ^ 63 then match ixN xs.length k with
        | some j => match xs[j]? with
          | some y => .ok (.t y) (S.set i (.lst (xs.eraseIdx j)))
          | none => .fail
        | none => .fail
        else .fail
      | _ => .fail
    | _, _ => .fail
  | .count => match vw S v, u with
    | some (.lst xs), .t x => if x.flat && xs.all T.flat then ret (.int (xs.countP fun y => teq y x)) S else .fail
    | _, _ => .fail

/-- three values -/
def s3 (o : O3) (v u w : RV) (S : Store) : R RV :=
  match o with
  | .slice => match u, w with
    | .t (.int i), .t (.int j) => slc S v (some i) (some j)
    | _, _ => .fail
  | .insert => match v, u with
    | .o i, .t (.int k) => match fz S w with
      | some (y, S1) => match S1[i]? with
        | some (.lst xs) => if 0 ≤ k ∧ k ≤ xs.length ∧ xs.length < sizeLine then .ok (.t .non) (S1.set i (.lst (xs.take k.toNat ++ y :: xs.drop k.toNat))) else .fail
        | _ => .fail
      | none => .fail
    | _, _ => .fail
  | .get => match vw S v, u with
    | some (.dic kvs), .t x => match keyOf x with
      | some k => match dget kvs k with
        | some y => ret y S
        | none => .ok w S
      | none => .fail
    | _, _ => .fail

/-! ### a method's receiver, as soon as it is there -/
def isL (S : Store) (v : RV) : Bool := match v with
  | .o i => match S[i]? with
    | some (.lst _) => true
    | _ => false
  | _ => false
def pre2 (o : O2) (v : RV) (S : Store) : Bool := match o with
  | .append => isL S v
  | .extend => isL S v
  | .popAt => isL S v
  | .count => isL S v
  | .join => match v with
    | .t (.str _) => true
    | _ => false
  | _ => true
def pre3 (o : O3) (v : RV) (S : Store) : Bool := match o with
  | .insert => isL S v
  | .get => match vw S v with
    | some (.dic _) => true
    | _ => false
  | _ => true
def mid3 (o : O3) (v : RV) : Bool := match o with
  | .slice => match v with
    | .t (.int _) => true
    | _ => false
  | _ => true
/-! ### what is walked -/
structure Plan where
  items : List T
  watch : List (Nat × T)
def stands (w : List (Nat × T)) (S : Store) : Prop := ∀ p ∈ w, vw S (.o p.1) = some p.2
def wat : RV → T → List (Nat × T)
  | .t _, _ => []
  | .o i, x => [(i, x)]
def enumT : Nat → List T → List T
  | _, [] => []
  | n, x :: xs => .tup [.int n, x] :: enumT (n + 1) xs
def rangeT (lo : Int) (n : Nat) : List T := (List.range n).map fun (i : Nat) => T.int (lo + i)
def zipT : List T → List T → List T
  | x :: xs, y :: ys => .tup [x, y] :: zipT xs ys
  | _, _ => []
def w1 (o : I1) (v : RV) (S : Store) : R Plan :=
  match o with
  | .val => match vw S v with
    | some (.lst xs) => .ok ⟨xs, wat v (.lst xs)⟩ S
    | some (.tup xs) => .ok ⟨xs, []⟩ S
    | some (.rol xs) => .ok ⟨xs, []⟩ S
    | some (.str s) => .ok ⟨s.cps.toList.map fun c => .str ⟨#[c]⟩, []⟩ S
    | _ => .fail
  | .range => match v with
    | .t (.int j) => if -(2 ^ 62) ≤ j ∧ j < 2 ^ 62 then .ok ⟨rangeT 0 j.toNat, []⟩ S else .fail
    | _ => .fail
  | .enum => match vw S v with
    | some (.lst xs) => .ok ⟨enumT 0 xs, wat v (.lst xs)⟩ S
    | _ => .fail
  | .items => .fail
  | .rev => match vw S v with
    | some (.lst xs) => .ok ⟨xs.reverse, wat v (.lst xs)⟩ S
    | _ => .fail
def w2 (o : I2) (v u : RV) (S : Store) : R Plan :=
  match o with
  | .range2 => match v, u with
    | .t (.int i), .t (.int j) => if -(2 ^ 62) ≤ i ∧ i < 2 ^ 62 ∧ -(2 ^ 62) ≤ j ∧ j < 2 ^ 62 then .ok ⟨rangeT i (j - i).toNat, []⟩ S else .fail
    | _, _ => .fail
  | .zip => match vw S v, vw S u with
    | some (.lst xs), some (.lst ys) => .ok ⟨zipT xs ys, wat v (.lst xs) ++ wat u (.lst ys)⟩ S
    | _, _ => .fail

/-! ### targets -/
def sets : List Nat → List T → En → Option En
  | [], [], env => some env
  | i :: is, x :: xs, env => sets is xs (env.set i (some (.t x)))
  | _, _, _ => none
def bindT (tg : Tg) (v : RV) (env : En) (S : Store) : Option En :=
  match tg with
  | .nm i => some (env.set i (some v))
  | .tp is => match vw S v with
    | some (.tup xs) => sets is xs env
    | some (.lst xs) => sets is xs env
    | _ => none
def wipeE (env : En) : List Nat → En
  | [] => env
  | v :: vs => (wipeE env vs).set v none

/-! ### loops -/
def noX {α β : Type} (r : R α) (f : α → Store → R β) : R β :=
  match r with
  | .ok a S => f a S
  | _ => .fail
/-- an expression within a statement -/
def liftE {α : Type} (env : En) (r : R α) (f : α → Store → R (Fl × En)) : R (Fl × En) :=
  match r with
  | .ok a S => f a S
  | .exc x S => .ok (.exc x, env) S
  | .fail => .fail
section
variable {α β : Type} {a : α} {S : Store} {x : Exc} {env : En} {f : α → Store → R β} {g : α → Store → R (Fl × En)}
@[simp] theorem noX_ok : noX (R.ok a S) f = f a S := rfl
@[simp] theorem liftE_ok : liftE env (R.ok a S) g = g a S := rfl
@[simp] theorem liftE_exc : liftE env (R.exc (α := α) x S) g = .ok (.exc x, env) S := rfl
end
open Classical in
noncomputable def lcL (w : List (Nat × T)) (D : Nat) (step : T → Store → R (Option RV)) : List T → Store → R Unit
  | [], S => if stands w S then .ok () S else .fail
  | x :: xs, S => if stands w S then noX (step x S) fun r S1 => match r with
      | none => lcL w D step xs S1
      | some v => match fz S1 v with
        | some (y, S2) => match S2[D]? with
          | some (.lst acc) => if acc.length < sizeLine then lcL w D step xs (S2.set D (.lst (acc ++ [y]))) else .fail
          | _ => .fail
        | none => .fail
    else .fail
open Classical in
noncomputable def forL (w : List (Nat × T)) (step : T → En → Store → R (Fl × En)) : List T → En → Store → R (Fl × En)
  | [], env, S => if stands w S then .ok (.nx, env) S else .fail
  | x :: xs, env, S => if stands w S then noX (step x env S) fun r S1 => match r.1 with
      | .nx => forL w step xs r.2 S1
      | .cont => forL w step xs r.2 S1
      | .brk => .ok (.nx, r.2) S1
      | .ret v => .ok (.ret v, r.2) S1
      | .exc x => .ok (.exc x, r.2) S1
    else .fail
def whlL (c : En → Store → R Bool) (body : En → Store → R (Fl × En)) : Nat → En → Store → R (Fl × En)
  | 0, _, _ => .fail
  | n + 1, env, S => liftE env (c env S) fun b S1 => if b then noX (body env S1) fun r S2 => match r.1 with
      | .nx => whlL c body n r.2 S2
      | .cont => whlL c body n r.2 S2
      | .brk => .ok (.nx, r.2) S2
      | .ret v => .ok (.ret v, r.2) S2
      | .exc x => .ok (.exc x, r.2) S2
    else .ok (.nx, env) S1
/-- a display's pairs -/
def keysT (ks : List Str) (xs : List T) : List (Key × T) := (ks.map Sum.inr).zip xs
def isCmp : O2 → Bool
  | .eq | .ne | .lt | .le | .gt | .ge | .isin | .notin | .isn | .notn => true
  | _ => false
def asB (v : RV) (S : Store) : R Bool := match v with
  | .t (.bl b) => .ok b S
  | _ => .fail
def trB (v : RV) (S : Store) : R Bool := match vw S v with
  | some (.str s) => if s.length ≤ sizeLine then .ok (truth (.str s)) S else .fail
  | some (.exn _) => .fail
  | some x => .ok (truth x) S
  | none => .fail
def fuel : Nat := 1000000

section
variable (G : String → Option T) (call : String → List RV → Store → R RV)
mutual
noncomputable def ev : E → En → Store → R RV
  | .var i, env, S => match env[i]? with
    | some (some v) => .ok (nrm S v) S
    | _ => .fail
  | .cst x, _, S => .ok (.t x) S
  | .glb x, _, S => match G x with
    | some y => .ok (.t y) S
    | none => .fail
  | .op0 o, _, S => s0 o S
  | .op1 o a, env, S => (ev a env S).bind fun v S1 => s1 o v S1
  | .op2 o a b, env, S => (ev a env S).bind fun v S1 => if pre2 o v S1 then (ev b env S1).bind fun u S2 => s2 o v u S2 else .fail
  | .op3 o a b c, env, S => (ev a env S).bind fun v S1 => if pre3 o v S1 then (ev b env S1).bind fun u S2 => if mid3 o u then (ev c env S2).bind fun w S3 => s3 o v u w S3 else .fail else .fail
  | .and a b, env, S => (ev a env S).bind fun v S1 => (asB v S1).bind fun k S2 => if k then ev b env S2 else ret (.bl false) S2
  | .or a b, env, S => (ev a env S).bind fun v S1 => (asB v S1).bind fun k S2 => if k then ret (.bl true) S2 else ev b env S2
  | .not a, env, S => (ev a env S).bind fun v S1 => (trB v S1).bind fun k S2 => ret (.bl (!k)) S2
  | .ite c a b, env, S => (tst c env S).bind fun k S1 => if k then ev a env S1 else ev b env S1
  | .chain o p a b c, env, S => (ev a env S).bind fun v S1 => (ev b env S1).bind fun u S2 => (s2 o v u S2).bind fun r S3 => (asB r S3).bind fun k S4 =>
      if k then (ev c env S4).bind fun w S5 => s2 p u w S5 else ret (.bl false) S4
  | .call f as, env, S => (evs as env S).bind fun vs S1 => call f vs S1
  | .tup as, env, S => (evs as env S).bind fun vs S1 => match fzs S1 vs with
    | some (xs, S2) => if xs.length ≤ sizeLine then ret (.tup xs) S2 else .fail
    | none => .fail
  | .lst as, env, S => (evs as env S).bind fun vs S1 => match fzs S1 vs with
    | some (xs, S2) => if xs.length ≤ sizeLine then alloc (.lst xs) S2 else .fail
    | none => .fail
  | .dct ks as, env, S => (evs as env (S ++ [.dic []])).bind fun rs S1 => if ks.length = rs.length ∧ ks.length ≤ 15 then (match fzs S1 rs with
    | some (xs, S2) => match S2[S.length]? with
      | some (.dic []) => .ok (.o S.length) (S2.set S.length (.dic (mergeT (keysT ks xs) [])))
      | _ => .fail
    | none => .fail) else .fail
  | .comp own elt tg it cond, env, S => (evi it env S).bind fun pl S1 =>
      (lcL pl.watch S1.length (fun x S => match bindT tg (.t x) (wipeE env own) S with
        | some env2 => noX (tst cond env2 S) fun k S2 => if k then noX (ev elt env2 S2) fun v S3 => .ok (some v) S3 else .ok none S2
        | none => .fail) pl.items (S1 ++ [.lst []])).bind fun _ S2 => .ok (.o S1.length) S2
noncomputable def evs : Es → En → Store → R (List RV)
  | .nil, _, S => .ok [] S
  | .cons a r, env, S => (ev a env S).bind fun v S1 => (evs r env S1).bind fun vs S2 => .ok (v :: vs) S2
noncomputable def tst : E → En → Store → R Bool
  | .and a b, env, S => (tst a env S).bind fun k S1 => if k then tst b env S1 else .ok false S1
  | .or a b, env, S => (tst a env S).bind fun k S1 => if k then .ok true S1 else tst b env S1
  | .not a, env, S => (tst a env S).bind fun k S1 => .ok (!k) S1
  | .op2 o a b, env, S => (ev a env S).bind fun v S1 => if pre2 o v S1 then (ev b env S1).bind fun u S2 => (s2 o v u S2).bind fun r S3 => if isCmp o then asB r S3 else trB r S3 else .fail
  | .chain o p a b c, env, S => (ev a env S).bind fun v S1 => (ev b env S1).bind fun u S2 => (s2 o v u S2).bind fun r S3 => (asB r S3).bind fun k S4 =>
      if k then (ev c env S4).bind fun w S5 => (s2 p u w S5).bind fun r S6 => asB r S6 else .ok false S4
  | .var i, env, S => match env[i]? with
    | some (some v) => trB (nrm S v) S
    | _ => .fail
  | .cst x, _, S => trB (.t x) S
  | .op1 o a, env, S => (ev a env S).bind fun v S1 => (s1 o v S1).bind trB
  | .call f as, env, S => (evs as env S).bind fun vs S1 => (call f vs S1).bind trB
  | _, _, _ => .fail
noncomputable def evi : It → En → Store → R Plan
  | .one o a, env, S => (ev a env S).bind fun v S1 => w1 o v S1
  | .two o a b, env, S => (ev a env S).bind fun v S1 => (ev b env S1).bind fun u S2 => w2 o v u S2
end
/-- an exception that is caught is kept in slot m -/
def keepX (cs : List String) (c : String) (n m : Nat) (r : R (Fl × En)) : R (Fl × En) := match r with
  | .ok p S1 => match p.1 with
    | .exc x => if cs.contains x.cls then if exB x.cls c then .ok (.nx, (p.2.set m (some (.t (.exn x.cls)))).set n none) S1 else .ok (.exc x, p.2) S1 else .fail
    | _ => .ok p S1
  | _ => .fail
mutual
noncomputable def exe : Sm → En → Store → R (Fl × En)
  | .ex e, env, S => liftE env (ev G call e env S) fun _ S1 => .ok (.nx, env) S1
  | .asg tg e, env, S => liftE env (ev G call e env S) fun v S1 => match bindT tg v env S1 with
    | some env1 => .ok (.nx, env1) S1
    | none => .fail
  | .sset o i e, env, S => liftE env (ev G call e env S) fun w S1 => liftE env (ev G call o env S1) fun v S2 => liftE env (ev G call i env S2) fun u S3 =>
      match fz S3 w with
      | some (y, S4) => match v, u with
        | .o p, .t x => match S4[p]? with
          | some (.lst xs) => match x with
            | .int k => match ixN xs.length k with
              | some j => .ok (.nx, env) (S4.set p (.lst (xs.set j y)))
              | none => .fail
            | _ => .fail
          | some (.dic kvs) => match keyOf x with
            | some k => if kvs.length < sizeLine then .ok (.nx, env) (S4.set p (.dic (dput kvs k y))) else .fail
            | none => .fail
          | _ => .fail
        | _, _ => .fail
      | none => .fail
  | .ret e, env, S => liftE env (ev G call e env S) fun v S1 => .ok (.ret v, env) S1
  | .ret0, env, S => .ok (.ret (.t .non), env) S
  | .ite c a b, env, S => liftE env (tst G call c env S) fun k S1 => if k then exes a env S1 else exes b env S1
  | .for_ tg it body, env, S => liftE env (evi G call it env S) fun pl S1 => forL pl.watch (fun x env S => match bindT tg (.t x) env S with
      | some env1 => exes body env1 S
      | none => .fail) pl.items env S1
  | .whl c body, env, S => whlL (fun env S => tst G call c env S) (fun env S => exes body env S) fuel env S
  | .raise c, env, S => .ok (.exc ⟨c, none⟩, env) S
  | .tryK b cs c n m, env, S => keepX cs c n m (exes b env S)
  | .cont, env, S => .ok (.cont, env) S
  | .brk, env, S => .ok (.brk, env) S
noncomputable def exes : Ss → En → Store → R (Fl × En)
  | .nil, env, S => .ok (.nx, env) S
  | .cons s r, env, S => noX (exe s env S) fun p S1 => match p.1 with
    | .nx => exes r p.2 S1
    | .ret v => .ok (.ret v, p.2) S1
    | .brk => .ok (.brk, p.2) S1
    | .cont => .ok (.cont, p.2) S1
    | .exc x => .ok (.exc x, p.2) S1
end
end

/-! ### defs -/
structure Fn where
  np : Nat
  nl : Nat
  body : Ss
/-- behind a call: what the callee made is dropped, but what it hands back -/
def fin (n : Nat) (v : RV) (S : Store) : R RV :=
  match nrm S v with
  | .t x => .ok (.t x) (S.take n)
  | .o i => if i < n then .ok (.o i) (S.take n) else match S[i]? with
    | some so => .ok (.o n) (S.take n ++ [so])
    | none => .fail
def endC (n : Nat) (r : R (Fl × En)) : R RV :=
  match r with
  | .ok (.nx, _) S => .ok (.t .non) (S.take n)
  | .ok (.ret v, _) S => fin n v S
  | .ok (.exc x, _) S => .exc x (S.take n)
  | .ok _ _ => .fail
  | .exc x S => .exc x (S.take n)
  | .fail => .fail
noncomputable def callR (G : String → Option T) (Δ : String → Option Fn) : Nat → String → List RV → Store → R RV
  | 0, _, _, _ => .fail
  | k + 1, f, vs, S => match Δ f with
    | some d => if vs.length = d.np then endC S.length (exes G (callR G Δ k) d.body (vs.map some ++ List.replicate (d.nl - d.np) none) S) else .fail
    | none => .fail
/-- the same, not looked into unasked -/
@[irreducible] noncomputable def callF (G : String → Option T) (Δ : String → Option Fn) (k : Nat) : String → List RV → Store → R RV := callR G Δ k
theorem callF_0 (G : String → Option T) (Δ : String → Option Fn) (f : String) (vs : List RV) (S : Store) : callF G Δ 0 f vs S = .fail := by
  unfold callF
  rfl
theorem callF_s (G : String → Option T) (Δ : String → Option Fn) (k : Nat) (f : String) (vs : List RV) (S : Store) : callF G Δ (k + 1) f vs S = match Δ f with
    | some d => if vs.length = d.np then endC S.length (exes G (callF G Δ k) d.body (vs.map some ++ List.replicate (d.nl - d.np) none) S) else .fail
    | none => .fail := by
  unfold callF
  rfl
end PV

set_option maxRecDepth 100000
/-! ## 3. How data and the store lie in the abstract heap -/
namespace PV
open PySem L2

/-- an exception that was caught, at a -/
def ExK (cls : Value) (a : Addr) : HO := .ext fun g => ∃ ob, g.get? a = some ob ∧ Zc cls none ob ∧ ∃ fs, ob.data = .fields fs
mutual
inductive RT (K : PySem.W.Frag) (F : Hp) : V → T → Prop
  | non : RT K F .non .non
  | bl (b : Bool) : RT K F (.bl b) (.bl b)
  | int (i : Int) : RT K F (.int i) (.int i)
  | str (s : Str) : RT K F (.str s) (.str s)
  | lst {a : Addr} {vs : List V} {xs : List T} (h : F a = some (.lst vs)) (r : RTs K F vs xs) : RT K F (.ref a) (.lst xs)
  | rol {a : Addr} {vs : List V} {xs : List T} (h : SqL K F a vs) (r : RTs K F vs xs) : RT K F (.ref a) (.rol xs)
  | tup {a : Addr} {vs : List V} {xs : List T} (h : SqT K F a vs) (r : RTs K F vs xs) : RT K F (.ref a) (.tup xs)
  | dic {a : Addr} {ws : List (Key × V)} {kvs : List (Key × T)} (h : F a = some (.dK ws)) (r : RTk K F ws kvs) : RT K F (.ref a) (.dic kvs)
  | exn {a C : Addr} {c : String} (h : F a = some (ExK (.ref C) a)) (hn : PySem.W.nsIn K mainGlobals (Str.ofString c) = some (some (.ref C))) : RT K F (.ref a) (.exn c)
inductive RTs (K : PySem.W.Frag) (F : Hp) : List V → List T → Prop
  | nil : RTs K F [] []
  | cons {v : V} {vs : List V} {x : T} {xs : List T} (h : RT K F v x) (r : RTs K F vs xs) : RTs K F (v :: vs) (x :: xs)
inductive RTk (K : PySem.W.Frag) (F : Hp) : List (Key × V) → List (Key × T) → Prop
  | nil : RTk K F [] []
  | cons {k : Key} {v : V} {vs : List (Key × V)} {x : T} {xs : List (Key × T)} (h : RT K F v x) (r : RTk K F vs xs) : RTk K F ((k, v) :: vs) ((k, x) :: xs)
end
section
variable {K : PySem.W.Frag} {F F' : Hp}
theorem sameT {a : Addr} {vs : List V} (f : Same F F') (h : SqT K F a vs) : SqT K F' a vs := by
  rcases h with (h | ⟨o, h⟩) | h
  · exact .inl (.inl (f _ _ h))
  · exact .inl (.inr ⟨o, f _ _ h⟩)
  · exact .inr h
mutual
theorem RT.mono (f : Same F F') : ∀ {v : V} {x : T}, RT K F v x → RT K F' v x
  | _, _, .non => .non
  | _, _, .bl b => .bl b
  | _, _, .int i => .int i
  | _, _, .str s => .str s
  | _, _, .lst h r => .lst (f _ _ h) (RTs.mono f r)
  | _, _, .rol h r => .rol (f.seq h) (RTs.mono f r)
  | _, _, .tup h r => .tup (sameT f h) (RTs.mono f r)
  | _, _, .dic h r => .dic (f _ _ h) (RTk.mono f r)
  | _, _, .exn h hn => .exn (f _ _ h) hn
theorem RTs.mono (f : Same F F') : ∀ {v : List V} {x : List T}, RTs K F v x → RTs K F' v x
  | _, _, .nil => .nil
  | _, _, .cons h r => .cons (RT.mono f h) (RTs.mono f r)
theorem RTk.mono (f : Same F F') : ∀ {v : List (Key × V)} {x : List (Key × T)}, RTk K F v x → RTk K F' v x
  | _, _, .nil => .nil
  | _, _, .cons h r => .cons (RT.mono f h) (RTk.mono f r)
end
theorem RTs.length : ∀ {vs : List V} {xs : List T}, RTs K F vs xs → vs.length = xs.length
  | _, _, .nil => rfl
  | _, _, .cons _ r => congrArg (· + 1) (RTs.length r)
theorem RTs.get : ∀ {vs : List V} {xs : List T} {i : Nat} {x : T}, RTs K F vs xs → xs[i]? = some x → ∃ v, vs[i]? = some v ∧ RT K F v x
  | _, _, _, _, .nil, e => by simp at e
  | _, _, 0, _, .cons h _, e => by simp at e; subst e; exact ⟨_, rfl, h⟩
  | _, _, i + 1, _, .cons _ r, e => by
    obtain ⟨v, h1, h2⟩ := RTs.get (i := i) r (by simpa using e)
    exact ⟨v, by simpa using h1, h2⟩
theorem RTs.append : ∀ {vs ws : List V} {xs ys : List T}, RTs K F vs xs → RTs K F ws ys → RTs K F (vs ++ ws) (xs ++ ys)
  | _, _, _, _, .nil, s => s
  | _, _, _, _, .cons h r, s => .cons h (RTs.append r s)
theorem RTs.take : ∀ (n : Nat) {vs : List V} {xs : List T}, RTs K F vs xs → RTs K F (vs.take n) (xs.take n)
  | 0, _, _, _ => .nil
  | _ + 1, _, _, .nil => .nil
  | n + 1, _, _, .cons h r => .cons h (RTs.take n r)
theorem RTs.drop : ∀ (n : Nat) {vs : List V} {xs : List T}, RTs K F vs xs → RTs K F (vs.drop n) (xs.drop n)
  | 0, _, _, r => r
  | _ + 1, _, _, .nil => .nil
  | n + 1, _, _, .cons _ r => RTs.drop n r
theorem RTs.reverse {vs : List V} {xs : List T} (r : RTs K F vs xs) : RTs K F vs.reverse xs.reverse := by
  have aux : ∀ {vs : List V} {xs : List T}, RTs K F vs xs → RTs K F vs.reverse xs.reverse := by
    intro vs xs r
    induction vs generalizing xs with
    | nil => cases r; exact .nil
    | cons v vs ih =>
      cases r with
      | cons h r =>
        rw [List.reverse_cons, List.reverse_cons]
        exact RTs.append (ih r) (.cons h .nil)
  exact aux r
theorem RTs.set {v : V} {x : T} (h : RT K F v x) : ∀ (i : Nat) {vs : List V} {xs : List T}, RTs K F vs xs → RTs K F (vs.set i v) (xs.set i x)
  | _, _, _, .nil => .nil
  | 0, _, _, .cons _ r => .cons h r
  | i + 1, _, _, .cons q r => .cons q (RTs.set h i r)
theorem RTs.dropLast {vs : List V} {xs : List T} (r : RTs K F vs xs) : RTs K F vs.dropLast xs.dropLast := by
  rw [List.dropLast_eq_take, List.dropLast_eq_take, r.length]
  exact r.take _
theorem RTs.rep {vs : List V} {xs : List T} (r : RTs K F vs xs) : ∀ k : Nat, RTs K F (List.replicate k vs).flatten (List.replicate k xs).flatten
  | 0 => .nil
  | k + 1 => by
    rw [List.replicate_succ, List.replicate_succ, List.flatten_cons, List.flatten_cons]
    exact r.append (RTs.rep r k)
theorem RTk.length : ∀ {vs : List (Key × V)} {xs : List (Key × T)}, RTk K F vs xs → vs.length = xs.length
  | _, _, .nil => rfl
  | _, _, .cons _ r => congrArg (· + 1) (RTk.length r)
theorem RTk.get (k : Key) : ∀ {vs : List (Key × V)} {xs : List (Key × T)}, RTk K F vs xs → match dget xs k with | some x => ∃ v, valV vs k = some v ∧ RT K F v x | none => valV vs k = none
  | _, _, .nil => rfl
  | _, _, .cons (k := k') (v := v) (vs := vs) (x := x) (xs := xs) h r => by
    unfold dget valV
    by_cases e : k' = k
    · subst e
      simp
      exact h
    · rw [List.find?_cons_of_neg (by simpa using e), List.find?_cons_of_neg (by simpa using e)]
      exact RTk.get k r
theorem RTk.any (k : Key) : ∀ {vs : List (Key × V)} {xs : List (Key × T)}, RTk K F vs xs → (vs.any fun kv => decide (kv.1 = k)) = xs.any fun kv => decide (kv.1 = k)
  | _, _, .nil => rfl
  | _, _, .cons h r => by
    rw [List.any_cons, List.any_cons, RTk.any k r]
theorem RTk.repl (k : Key) {v : V} {x : T} (h : RT K F v x) : ∀ {vs : List (Key × V)} {xs : List (Key × T)}, RTk K F vs xs →
    RTk K F (vs.map fun kv => if kv.1 = k then (kv.1, v) else kv) (xs.map fun kv => if kv.1 = k then (kv.1, x) else kv)
  | _, _, .nil => .nil
  | _, _, .cons (k := k') q r => by
    rw [List.map_cons, List.map_cons]
    by_cases e : k' = k
    · rw [if_pos e, if_pos e]
      exact .cons h (RTk.repl k h r)
    · rw [if_neg e, if_neg e]
      exact .cons q (RTk.repl k h r)
theorem RTk.snoc {k : Key} {v : V} {x : T} (h : RT K F v x) : ∀ {vs : List (Key × V)} {xs : List (Key × T)}, RTk K F vs xs → RTk K F (vs ++ [(k, v)]) (xs ++ [(k, x)])
  | _, _, .nil => .cons h .nil
  | _, _, .cons q r => .cons q (RTk.snoc h r)
theorem RTk.put (k : Key) {v : V} {x : T} (h : RT K F v x) {vs : List (Key × V)} {xs : List (Key × T)} (r : RTk K F vs xs) : RTk K F (putK vs k v) (dput xs k x) := by
  unfold putK dput
  rw [r.any k]
  by_cases e : (xs.any fun kv => decide (kv.1 = k)) = true
  · rw [if_pos e, if_pos e]
    exact r.repl k h
  · rw [if_neg e, if_neg e]
    exact r.snoc h
end

/-! ### the store -/
/-- an object as it lies -/
def OB (K : PySem.W.Frag) (F H : Hp) (a : Addr) : SO → Prop
  | .frz x => RT K F (.ref a) x
  | .lst xs => F a = none ∧ ∃ vs, H a = some (.lst vs) ∧ RTs K F vs xs
  | .dic kvs => F a = none ∧ ∃ ws, H a = some (.dK ws) ∧ RTk K F ws kvs
structure SR (K : PySem.W.Frag) (F : Hp) (ι : List Addr) (S : Store) (H : Hp) : Prop where
  sub : Same F H
  len : ι.length = S.length
  ob : ∀ (i : Nat) (a : Addr) (so : SO), ι[i]? = some a → S[i]? = some so → OB K F H a so
  at_ : ∀ (i : Nat) (a : Addr), ι[i]? = some a → ∃ u, H a = some u
  inj : ∀ (i j : Nat) (a : Addr), ι[i]? = some a → ι[j]? = some a → i = j
/-- a value -/
def RVr (K : PySem.W.Frag) (F : Hp) (ι : List Addr) (v : V) : RV → Prop
  | .t x => RT K F v x
  | .o i => ∃ a, ι[i]? = some a ∧ v = .ref a
def RVs (K : PySem.W.Frag) (F : Hp) (ι : List Addr) : List V → List RV → Prop
  | [], [] => True
  | v :: vs, r :: rs => RVr K F ι v r ∧ RVs K F ι vs rs
  | _, _ => False
/-- the slots -/
structure EnvR (K : PySem.W.Frag) (F : Hp) (ι : List Addr) (σ : St) (env : En) : Prop where
  len : σ.length = env.length
  at_ : ∀ (i : Nat) (r : RV), env[i]? = some (some r) → ∃ v, σ[i]? = some (some v) ∧ RVr K F ι v r
/-- more is fixed, more is made -/
structure Ext (F F' : Hp) (ι ι' : List Addr) : Prop where
  f : Same F F'
  i : ∃ more, ι' = ι ++ more
section
variable {K : PySem.W.Frag} {F F' F'' H H' : Hp} {ι ι' ι'' : List Addr} {S S' : Store} {v : V} {r : RV} {σ : St} {env : En}
theorem Ext.refl : Ext F F ι ι := ⟨Same.refl F, [], by simp⟩
theorem Ext.trans (a : Ext F F' ι ι') (b : Ext F' F'' ι' ι'') : Ext F F'' ι ι'' := ⟨a.f.trans b.f, by
  obtain ⟨m1, rfl⟩ := a.i
  obtain ⟨m2, rfl⟩ := b.i
  exact ⟨m1 ++ m2, by rw [List.append_assoc]⟩⟩
theorem Ext.at_ (x : Ext F F' ι ι') {i : Nat} {a : Addr} (h : ι[i]? = some a) : ι'[i]? = some a := by
  obtain ⟨m, rfl⟩ := x.i
  rw [List.getElem?_append_left (List.getElem?_eq_some_iff.mp h).1]
  exact h
theorem RVr.mono (x : Ext F F' ι ι') (h : RVr K F ι v r) : RVr K F' ι' v r := by
  cases r with
  | t y => exact RT.mono x.f h
  | o i => obtain ⟨a, e, q⟩ := h; exact ⟨a, x.at_ e, q⟩
theorem RVs.mono (x : Ext F F' ι ι') : ∀ {vs : List V} {rs : List RV}, RVs K F ι vs rs → RVs K F' ι' vs rs
  | [], [], _ => trivial
  | _ :: _, _ :: _, h => ⟨h.1.mono x, RVs.mono x h.2⟩
theorem RVs.length : ∀ {vs : List V} {rs : List RV}, RVs K F ι vs rs → vs.length = rs.length
  | [], [], _ => rfl
  | _ :: _, _ :: _, h => congrArg (· + 1) (RVs.length h.2)
theorem EnvR.mono (x : Ext F F' ι ι') (h : EnvR K F ι σ env) : EnvR K F' ι' σ env := ⟨h.len, fun i r e => by
  obtain ⟨v, e1, q⟩ := h.at_ i r e
  exact ⟨v, e1, q.mono x⟩⟩
theorem EnvR.set {i : Nat} (h : EnvR K F ι σ env) (q : RVr K F ι v r) : EnvR K F ι (σ.set i (some v)) (env.set i (some r)) := by
  refine ⟨by simp [h.len], fun j r' e => ?_⟩
  by_cases hj : i = j
  · subst hj
    by_cases hl : i < env.length
    · rw [List.getElem?_set_self hl] at e
      cases e
      exact ⟨v, List.getElem?_set_self (by rw [h.len]; exact hl), q⟩
    · rw [List.getElem?_eq_none (by rw [List.length_set]; omega)] at e
      cases e
  · rw [List.getElem?_set_ne hj] at e ⊢
    exact h.at_ j r' e
theorem wipeE_length (env : En) : ∀ vs : List Nat, (wipeE env vs).length = env.length
  | [] => rfl
  | v :: vs => by unfold wipeE; rw [List.length_set, wipeE_length env vs]
theorem EnvR.wipe (h : EnvR K F ι σ env) : ∀ vs : List Nat, EnvR K F ι (wipe σ vs) (wipeE env vs)
  | [] => h
  | i :: vs => by
    have ih := EnvR.wipe h vs
    unfold L2.wipe wipeE
    refine ⟨by simp [ih.len], fun j r' e => ?_⟩
    by_cases hj : i = j
    · subst hj
      by_cases hl : i < (wipeE env vs).length
      · rw [List.getElem?_set_self hl] at e
        cases e
      · rw [List.getElem?_eq_none (by rw [List.length_set]; omega)] at e
        cases e
    · rw [List.getElem?_set_ne hj] at e ⊢
      exact ih.at_ j r' e

/-! #### what a value holds now -/
def RN (K : PySem.W.Frag) (F H : Hp) (v : V) : T → Prop
  | .non => v = .non
  | .bl b => v = .bl b
  | .int i => v = .int i
  | .str s => v = .str s
  | .lst xs => ∃ a vs, v = .ref a ∧ H a = some (.lst vs) ∧ RTs K F vs xs
  | .rol xs => ∃ a vs, v = .ref a ∧ SqL K H a vs ∧ RTs K F vs xs
  | .tup xs => ∃ a vs, v = .ref a ∧ SqT K H a vs ∧ RTs K F vs xs
  | .dic kvs => ∃ a ws, v = .ref a ∧ H a = some (.dK ws) ∧ RTk K F ws kvs
  | .exn c => ∃ a C, v = .ref a ∧ H a = some (ExK (.ref C) a) ∧ PySem.W.nsIn K mainGlobals (Str.ofString c) = some (some (.ref C))
theorem RT.now {x : T} (h : RT K F v x) (sub : Same F H) : RN K F H v x := by
  cases h with
  | non => rfl
  | bl b => rfl
  | int i => rfl
  | str s => rfl
  | lst h r => exact ⟨_, _, rfl, sub _ _ h, r⟩
  | rol h r => exact ⟨_, _, rfl, sub.seq h, r⟩
  | tup h r => exact ⟨_, _, rfl, sameT sub h, r⟩
  | dic h r => exact ⟨_, _, rfl, sub _ _ h, r⟩
  | exn h hn => exact ⟨_, _, rfl, sub _ _ h, hn⟩
theorem SR.lt (sr : SR K F ι S H) {i : Nat} {a : Addr} (h : ι[i]? = some a) : ∃ so, S[i]? = some so := by
  have h1 := (List.getElem?_eq_some_iff.mp h).1
  rw [sr.len] at h1
  exact ⟨S[i], List.getElem?_eq_getElem h1⟩
theorem OB.now {a : Addr} {so : SO} (h : OB K F H a so) (sub : Same F H) : RN K F H (.ref a) so.tree := by
  cases so with
  | frz x => exact RT.now h sub
  | lst xs => obtain ⟨_, vs, e, q⟩ := h; exact ⟨a, vs, rfl, e, q⟩
  | dic kvs => obtain ⟨_, ws, e, q⟩ := h; exact ⟨a, ws, rfl, e, q⟩
theorem SR.now (sr : SR K F ι S H) {x : T} (h : RVr K F ι v r) (e : vw S r = some x) : RN K F H v x := by
  cases r with
  | t y => cases e; exact RT.now h sr.sub
  | o i =>
    obtain ⟨a, ea, rfl⟩ := h
    obtain ⟨so, es⟩ := sr.lt ea
    simp only [vw, es, Option.map_some] at e
    cases e
    exact (sr.ob i a so ea es).now sr.sub

/-! #### steps of the store -/
/-- a new object of no concern -/
theorem SR.more (sr : SR K F ι S H) {p : Addr} {u : HO} (n : H p = none) : SR K F ι S (upd H p u) := by
  have ne : ∀ a o, H a = some o → a ≠ p := fun a o e z => by rw [z, n] at e; cases e
  refine ⟨fun a u e => ?_, sr.len, fun i a so e1 e2 => ?_, fun i a e => ?_, sr.inj⟩
  · have h := sr.sub a u e
    rw [upd_ne (ne _ _ h)]; exact h
  · have h := sr.ob i a so e1 e2
    cases so with
    | frz x => exact h
    | lst xs => obtain ⟨h0, vs, e, q⟩ := h; exact ⟨h0, vs, by rw [upd_ne (ne _ _ e)]; exact e, q⟩
    | dic kvs => obtain ⟨h0, vs, e, q⟩ := h; exact ⟨h0, vs, by rw [upd_ne (ne _ _ e)]; exact e, q⟩
  · obtain ⟨u, e⟩ := sr.at_ i a e
    exact ⟨u, by rw [upd_ne (ne _ _ e)]; exact e⟩
theorem SR.free (sr : SR K F ι S H) {p : Addr} (n : H p = none) : F p = none := by
  cases e : F p with
  | none => rfl
  | some u =>
    have h := sr.sub p u e
    rw [n] at h; cases h
theorem same_new {p : Addr} {u : HO} (n : F p = none) : Same F (upd F p u) := fun b o e => by rw [upd_ne (ne_of_none e n)]; exact e
theorem OB.monoF {a : Addr} {so : SO} (h : OB K F H a so) (f : Same F F') (hf : F a = none → F' a = none) : OB K F' H a so := by
  cases so with
  | frz x => exact RT.mono f h
  | lst xs => obtain ⟨h0, vs, e, q⟩ := h; exact ⟨hf h0, vs, e, q.mono f⟩
  | dic kvs => obtain ⟨h0, vs, e, q⟩ := h; exact ⟨hf h0, vs, e, q.mono f⟩
/-- a new thing that is fixed at once -/
theorem SR.moreF (sr : SR K F ι S H) {p : Addr} {u : HO} (n : H p = none) : SR K (upd F p u) ι S (upd H p u) ∧ Ext F (upd F p u) ι ι := by
  have s := sr.more (u := u) n
  have nf := sr.free n
  refine ⟨⟨fun a o e => ?_, s.len, fun i a so e1 e2 => (s.ob i a so e1 e2).monoF (same_new nf) fun h0 => ?_, s.at_, s.inj⟩, same_new nf, [], by simp⟩
  · by_cases h : a = p
    · subst h
      rw [upd_same] at e
      cases e
      exact upd_same
    · rw [upd_ne h] at e
      exact s.sub a o e
  · have : a ≠ p := fun z => by
      obtain ⟨u, e⟩ := sr.at_ i a e1
      rw [z, n] at e; cases e
    rw [upd_ne this]; exact h0
/-- a new object of the store -/
theorem SR.push (sr : SR K F ι S H) {p : Addr} {u : HO} {so : SO} (n : H p = none) (h : OB K F (upd H p u) p so) : SR K F (ι ++ [p]) (S ++ [so]) (upd H p u) ∧ Ext F F ι (ι ++ [p]) := by
  have s := sr.more (u := u) n
  have nin : ∀ (i : Nat), ι[i]? ≠ some p := fun i e => by
    obtain ⟨u, e⟩ := sr.at_ i p e
    rw [n] at e; cases e
  have key : ∀ (i : Nat) (a : Addr), (ι ++ [p])[i]? = some a → (ι[i]? = some a) ∨ (i = ι.length ∧ a = p) := fun i a e => by
    by_cases hi : i < ι.length
    · rw [List.getElem?_append_left hi] at e; exact .inl e
    · rw [List.getElem?_append_right (by omega)] at e
      obtain ⟨h1, h2⟩ := List.getElem?_eq_some_iff.mp e
      simp only [List.length_singleton] at h1
      refine .inr ⟨by omega, ?_⟩
      have z : i - ι.length = 0 := by omega
      simp [z] at h2
      exact h2.symm
  refine ⟨⟨s.sub, by simp [s.len], fun i a so' e1 e2 => ?_, fun i a e => ?_, fun i j a e1 e2 => ?_⟩, Same.refl F, [p], rfl⟩
  · rcases key i a e1 with q | ⟨rfl, rfl⟩
    · have hi : i < S.length := by rw [← sr.len]; exact (List.getElem?_eq_some_iff.mp q).1
      rw [List.getElem?_append_left hi] at e2
      exact s.ob i a so' q e2
    · rw [sr.len, List.getElem?_append_right (Nat.le_refl _)] at e2
      simp at e2
      subst e2
      exact h
  · rcases key i a e with q | ⟨rfl, rfl⟩
    · exact s.at_ i a q
    · exact ⟨u, upd_same⟩
  · rcases key i a e1 with q | ⟨h1, h2⟩ <;> rcases key j a e2 with q' | ⟨h1', h2'⟩
    · exact sr.inj i j a q q'
    · subst h2'; exact absurd q (nin i)
    · subst h2; exact absurd q' (nin j)
    · rw [h1, h1']
theorem SR.pushL (sr : SR K F ι S H) {p : Addr} {vs : List V} {xs : List T} (n : H p = none) (q : RTs K F vs xs) : SR K F (ι ++ [p]) (S ++ [.lst xs]) (upd H p (.lst vs)) ∧ Ext F F ι (ι ++ [p]) :=
  sr.push n ⟨sr.free n, vs, upd_same, q⟩
theorem SR.pushD (sr : SR K F ι S H) {p : Addr} {vs : List (Key × V)} {xs : List (Key × T)} (n : H p = none) (q : RTk K F vs xs) : SR K F (ι ++ [p]) (S ++ [.dic xs]) (upd H p (.dK vs)) ∧ Ext F F ι (ι ++ [p]) :=
  sr.push n ⟨sr.free n, vs, upd_same, q⟩
theorem last_at (sr : SR K F ι S H) {p : Addr} : (ι ++ [p])[S.length]? = some p := by
  rw [← sr.len, List.getElem?_append_right (Nat.le_refl _)]
  simp
/-- an object is written -/
theorem SR.write (sr : SR K F ι S H) {i : Nat} {a : Addr} {u : HO} {so : SO} (e : ι[i]? = some a) (hf : F a = none) (h : OB K F (upd H a u) a so) : SR K F ι (S.set i so) (upd H a u) := by
  have hi : i < S.length := by rw [← sr.len]; exact (List.getElem?_eq_some_iff.mp e).1
  refine ⟨fun b o eb => ?_, by simp [sr.len], fun j b so' e1 e2 => ?_, fun j b e1 => ?_, sr.inj⟩
  · have nb : b ≠ a := fun z => by rw [z, hf] at eb; cases eb
    rw [upd_ne nb]; exact sr.sub b o eb
  · by_cases hj : i = j
    · subst hj
      rw [e] at e1; cases e1
      rw [List.getElem?_set_self hi] at e2
      cases e2
      exact h
    · rw [List.getElem?_set_ne hj] at e2
      have nb : b ≠ a := fun z => hj (sr.inj i j a e (z ▸ e1))
      have q := sr.ob j b so' e1 e2
      cases so' with
      | frz x => exact q
      | lst xs => obtain ⟨h0, vs, ee, r⟩ := q; exact ⟨h0, vs, by rw [upd_ne nb]; exact ee, r⟩
      | dic kvs => obtain ⟨h0, vs, ee, r⟩ := q; exact ⟨h0, vs, by rw [upd_ne nb]; exact ee, r⟩
  · by_cases hb : b = a
    · exact ⟨u, by rw [hb]; exact upd_same⟩
    · obtain ⟨w, q⟩ := sr.at_ j b e1
      exact ⟨w, by rw [upd_ne hb]; exact q⟩
theorem SR.writeL (sr : SR K F ι S H) {i : Nat} {a : Addr} {vs : List V} {ys xs : List T} (e : ι[i]? = some a) (es : S[i]? = some (.lst ys)) (q : RTs K F vs xs) : SR K F ι (S.set i (.lst xs)) (upd H a (.lst vs)) := by
  have h := sr.ob i a _ e es
  exact sr.write e h.1 ⟨h.1, vs, upd_same, q⟩
theorem SR.writeD (sr : SR K F ι S H) {i : Nat} {a : Addr} {vs : List (Key × V)} {ys xs : List (Key × T)} (e : ι[i]? = some a) (es : S[i]? = some (.dic ys)) (q : RTk K F vs xs) : SR K F ι (S.set i (.dic xs)) (upd H a (.dK vs)) := by
  have h := sr.ob i a _ e es
  exact sr.write e h.1 ⟨h.1, vs, upd_same, q⟩
/-- an object is fixed for good -/
theorem SR.freeze (sr : SR K F ι S H) {i : Nat} {a : Addr} {so : SO} (e : ι[i]? = some a) (es : S[i]? = some so) : ∃ F', Ext F F' ι ι ∧ SR K F' ι (S.set i (.frz so.tree)) H ∧ RT K F' (.ref a) so.tree := by
  have hi : i < S.length := (List.getElem?_eq_some_iff.mp es).1
  have q := sr.ob i a so e es
  have main : ∀ u, H a = some u → F a = none → RT K (upd F a u) (.ref a) so.tree → ∃ F', Ext F F' ι ι ∧ SR K F' ι (S.set i (.frz so.tree)) H ∧ RT K F' (.ref a) so.tree := fun u hu hf hr => by
    refine ⟨upd F a u, ⟨same_new hf, [], by simp⟩, ⟨fun b o eb => ?_, by simp [sr.len], fun j b so' e1 e2 => ?_, sr.at_, sr.inj⟩, hr⟩
    · by_cases hb : b = a
      · subst hb
        rw [upd_same] at eb; cases eb
        exact hu
      · rw [upd_ne hb] at eb
        exact sr.sub b o eb
    · by_cases hj : i = j
      · subst hj
        rw [e] at e1; cases e1
        rw [List.getElem?_set_self hi] at e2
        cases e2
        exact hr
      · rw [List.getElem?_set_ne hj] at e2
        have nb : b ≠ a := fun z => hj (sr.inj i j a e (z ▸ e1))
        exact (sr.ob j b so' e1 e2).monoF (same_new hf) fun h0 => by rw [upd_ne nb]; exact h0
  cases so with
  | frz x =>
    refine ⟨F, Ext.refl, ?_, q⟩
    have : S.set i (.frz x) = S := by
      apply List.ext_getElem? 
      intro j
      by_cases hj : i = j
      · subst hj; rw [List.getElem?_set_self hi, es]
      · rw [List.getElem?_set_ne hj]
    show SR K F ι (S.set i (.frz x)) H
    rw [this]
    exact sr
  | lst xs =>
    obtain ⟨hf, vs, hu, r⟩ := q
    exact main _ hu hf (.lst upd_same (r.mono (same_new hf)))
  | dic kvs =>
    obtain ⟨hf, vs, hu, r⟩ := q
    exact main _ hu hf (.dic upd_same (r.mono (same_new hf)))
theorem SR.fz (sr : SR K F ι S H) {x : T} (h : RVr K F ι v r) (e : fz S r = some (x, S')) : ∃ F', Ext F F' ι ι ∧ SR K F' ι S' H ∧ RT K F' v x := by
  cases r with
  | t y => cases e; exact ⟨F, Ext.refl, sr, h⟩
  | o i =>
    obtain ⟨a, ea, rfl⟩ := h
    obtain ⟨so, es⟩ := sr.lt ea
    simp only [PV.fz, es] at e
    cases e
    exact sr.freeze ea es
theorem SR.fzs (sr : SR K F ι S H) : ∀ {rs : List RV} {vs : List V} {xs : List T} {F : Hp} {S S' : Store}, SR K F ι S H → RVs K F ι vs rs → fzs S rs = some (xs, S') → ∃ F', Ext F F' ι ι ∧ SR K F' ι S' H ∧ RTs K F' vs xs
  | [], [], _, F, _, _, s, _, e => by
    cases e
    exact ⟨F, Ext.refl, s, .nil⟩
  | r :: rs, v :: vs, xs, F, S, S', s, h, e => by
    unfold PV.fzs at e
    cases e1 : PV.fz S r with
    | none => rw [e1] at e; cases e
    | some p =>
      obtain ⟨x, S1⟩ := p
      rw [e1] at e
      simp only at e
      cases e2 : PV.fzs S1 rs with
      | none => rw [e2] at e; cases e
      | some p2 =>
        obtain ⟨ys, S2⟩ := p2
        rw [e2] at e
        cases e
        obtain ⟨F1, x1, s1, q1⟩ := s.fz h.1 e1
        obtain ⟨F2, x2, s2, q2⟩ := SR.fzs sr s1 (h.2.mono x1) e2
        exact ⟨F2, x1.trans x2, s2, .cons (q1.mono x2.f) q2⟩
theorem SR.nrm (sr : SR K F ι S H) (h : RVr K F ι v r) : RVr K F ι v (nrm S r) := by
  cases r with
  | t y => exact h
  | o i =>
    obtain ⟨a, ea, rfl⟩ := id h
    obtain ⟨so, es⟩ := sr.lt ea
    simp only [PV.nrm, es]
    cases so with
    | frz x => exact sr.ob i a _ ea es
    | lst xs => exact h
    | dic kvs => exact h
/-- what was made is dropped -/
theorem SR.cut {more : List Addr} {n : Nat} (sr : SR K F (ι ++ more) S H) (hn : n = ι.length) : SR K F ι (S.take n) H := by
  subst hn
  have hl : ι.length ≤ S.length := by rw [← sr.len, List.length_append]; omega
  refine ⟨sr.sub, by rw [List.length_take]; omega, fun i a so e1 e2 => ?_, fun i a e => ?_, fun i j a e1 e2 => ?_⟩
  · have hi := (List.getElem?_eq_some_iff.mp e1).1
    rw [List.getElem?_take_of_lt hi] at e2
    exact sr.ob i a so (by rw [List.getElem?_append_left hi]; exact e1) e2
  · have hi := (List.getElem?_eq_some_iff.mp e).1
    exact sr.at_ i a (by rw [List.getElem?_append_left hi]; exact e)
  · exact sr.inj i j a (by rw [List.getElem?_append_left (List.getElem?_eq_some_iff.mp e1).1]; exact e1) (by rw [List.getElem?_append_left (List.getElem?_eq_some_iff.mp e2).1]; exact e2)
theorem SR.keep1 {more : List Addr} {n i : Nat} {a : Addr} {so : SO} (sr : SR K F (ι ++ more) S H) (hn : n = ι.length) (hi : n ≤ i) (ea : (ι ++ more)[i]? = some a) (es : S[i]? = some so) : SR K F (ι ++ [a]) (S.take n ++ [so]) H := by
  have c := sr.cut hn
  subst hn
  have key : ∀ (j : Nat) (b : Addr), (ι ++ [a])[j]? = some b → (ι[j]? = some b) ∨ (j = ι.length ∧ b = a) := fun j b e => by
    by_cases hj : j < ι.length
    · rw [List.getElem?_append_left hj] at e; exact .inl e
    · rw [List.getElem?_append_right (by omega)] at e
      obtain ⟨h1, h2⟩ := List.getElem?_eq_some_iff.mp e
      simp only [List.length_singleton] at h1
      refine .inr ⟨by omega, ?_⟩
      have z : j - ι.length = 0 := by omega
      simp [z] at h2
      exact h2.symm
  have up : ∀ (j : Nat) (b : Addr), ι[j]? = some b → (ι ++ more)[j]? = some b := fun j b e => by rw [List.getElem?_append_left (List.getElem?_eq_some_iff.mp e).1]; exact e
  have ha : ∀ (j : Nat), ι[j]? ≠ some a := fun j e => by
    have h1 := sr.inj i j a ea (up j a e)
    have h2 := (List.getElem?_eq_some_iff.mp e).1
    omega
  refine ⟨sr.sub, by (have hc := c.len; rw [List.length_append, List.length_append, List.length_singleton, List.length_singleton]; omega), fun j b so' e1 e2 => ?_, fun j b e => ?_, fun j k b e1 e2 => ?_⟩
  · rcases key j b e1 with q | ⟨rfl, rfl⟩
    · have hj : j < (S.take ι.length).length := by rw [← c.len]; exact (List.getElem?_eq_some_iff.mp q).1
      rw [List.getElem?_append_left hj] at e2
      exact c.ob j b so' q e2
    · rw [List.getElem?_append_right (by rw [← c.len]; exact Nat.le_refl _), ← c.len] at e2
      simp at e2
      subst e2
      exact sr.ob i b so ea es
  · rcases key j b e with q | ⟨rfl, rfl⟩
    · exact c.at_ j b q
    · exact sr.at_ i b ea
  · rcases key j b e1 with q | ⟨h1, h2⟩ <;> rcases key k b e2 with q' | ⟨h1', h2'⟩
    · exact c.inj j k b q q'
    · subst h2'; exact absurd q (ha j)
    · subst h2; exact absurd q' (ha k)
    · rw [h1, h1']
end
end PV

/-! ### sorting: the one sorted list of some items -/
namespace PV
open L2 PyProof.Rows PySem.Spec PySem
section
variable {α : Type} {le : α → α → Prop}
theorem sort_uniq (anti : ∀ a b, le a b → le b a → a = b) : ∀ {l m : List α}, l.Perm m → l.Pairwise le → m.Pairwise le → l = m
  | [], m, p, _, _ => p.nil_eq
  | x :: l, [], p, _, _ => absurd p.length_eq (by simp)
  | x :: l, y :: m, p, hl, hm => by
    have hx : x ∈ y :: m := p.mem_iff.mp (.head _)
    have hy : y ∈ x :: l := p.mem_iff.mpr (.head _)
    have hl' := List.pairwise_cons.mp hl
    have hm' := List.pairwise_cons.mp hm
    have e : x = y := by
      rcases List.mem_cons.mp hx with h | h
      · exact h
      · rcases List.mem_cons.mp hy with h' | h'
        · exact h'.symm
        · exact anti _ _ (hl'.1 _ h') (hm'.1 _ h)
    subst e
    rw [sort_uniq anti (List.Perm.cons_inv p) hl'.2 hm'.2]
end
theorem insI_perm (x : Int) : ∀ l : List Int, (insI x l).Perm (x :: l)
  | [] => .refl _
  | y :: l => by
    unfold insI
    split
    · exact .refl _
    · exact ((insI_perm x l).cons y).trans (.swap _ _ _)
theorem sortI_perm : ∀ l : List Int, (sortI l).Perm l
  | [] => .refl _
  | x :: l => (insI_perm x _).trans ((sortI_perm l).cons x)
theorem insI_sorted (x : Int) : ∀ {l : List Int}, l.Pairwise (· ≤ ·) → (insI x l).Pairwise (· ≤ ·)
  | [], _ => by simp [insI]
  | y :: l, h => by
    have h' := List.pairwise_cons.mp h
    unfold insI
    split
    · rename_i hxy
      refine List.pairwise_cons.mpr ⟨fun z hz => ?_, h⟩
      rcases List.mem_cons.mp hz with e | e
      · subst e; exact hxy
      · exact Int.le_trans hxy (h'.1 z e)
    · rename_i hxy
      refine List.pairwise_cons.mpr ⟨fun z hz => ?_, insI_sorted x h'.2⟩
      rcases List.mem_cons.mp ((insI_perm x l).mem_iff.mp hz) with e | e
      · subst e; omega
      · exact h'.1 z e
theorem sortI_sorted : ∀ l : List Int, (sortI l).Pairwise (· ≤ ·)
  | [] => .nil
  | x :: l => insI_sorted x (sortI_sorted l)
theorem sortI_uniq {ns ms : List Int} (p : ns.Perm ms) (h : ns.Pairwise (· ≤ ·)) : ns = sortI ms :=
  sort_uniq (le := (· ≤ ·)) (fun a b h1 h2 => Int.le_antisymm h1 h2) (p.trans (sortI_perm ms).symm) h (sortI_sorted ms)
/-! texts -/
def leS (a b : Str) : Prop := ltCps b.cps.toList a.cps.toList = false
theorem leS_iff {a b : Str} : leS a b ↔ a.cps.toList ≤ b.cps.toList := by
  unfold leS
  rw [ltCps_eq, decide_eq_false_iff_not]
  exact List.not_lt
theorem leS_anti (a b : Str) (h1 : leS a b) (h2 : leS b a) : a = b := by
  have e := List.le_antisymm (leS_iff.mp h1) (leS_iff.mp h2)
  cases a; cases b
  congr 1
  exact Array.toList_inj.mp e
theorem leS_trans {a b c : Str} (h1 : leS a b) (h2 : leS b c) : leS a c := leS_iff.mpr (List.le_trans (leS_iff.mp h1) (leS_iff.mp h2))
theorem leS_total (a b : Str) : leS a b ∨ leS b a := by
  rcases List.le_total a.cps.toList b.cps.toList with h | h
  · exact .inl (leS_iff.mpr h)
  · exact .inr (leS_iff.mpr h)
theorem insS_perm (x : Str) : ∀ l : List Str, (insS x l).Perm (x :: l)
  | [] => .refl _
  | y :: l => by
    unfold insS
    split
    · exact ((insS_perm x l).cons y).trans (.swap _ _ _)
    · exact .refl _
theorem sortS_perm : ∀ l : List Str, (sortS l).Perm l
  | [] => .refl _
  | x :: l => (insS_perm x _).trans ((sortS_perm l).cons x)
theorem insS_sorted (x : Str) : ∀ {l : List Str}, l.Pairwise leS → (insS x l).Pairwise leS
  | [], _ => by simp [insS]
  | y :: l, h => by
    have h' := List.pairwise_cons.mp h
    unfold insS
    split
    · rename_i hxy
      have hyx : leS y x := by
        rcases leS_total y x with q | q
        · exact q
        · unfold leS at q
          rw [hxy] at q; cases q
      refine List.pairwise_cons.mpr ⟨fun z hz => ?_, insS_sorted x h'.2⟩
      rcases List.mem_cons.mp ((insS_perm x l).mem_iff.mp hz) with e | e
      · subst e; exact hyx
      · exact h'.1 z e
    · rename_i hxy
      have hxy' : leS x y := by
        unfold leS
        exact Bool.eq_false_iff.mpr hxy
      refine List.pairwise_cons.mpr ⟨fun z hz => ?_, h⟩
      rcases List.mem_cons.mp hz with e | e
      · subst e; exact hxy'
      · exact leS_trans hxy' (h'.1 z e)
theorem sortS_sorted : ∀ l : List Str, (sortS l).Pairwise leS
  | [] => .nil
  | x :: l => insS_sorted x (sortS_sorted l)
theorem rising_pair : ∀ (p : Str) (l : List Str), risingS p l = true → (p :: l).Pairwise leS
  | p, [], _ => by simp
  | p, x :: l, h => by
    simp only [risingS, Bool.and_eq_true, Bool.not_eq_true'] at h
    have ih := rising_pair x l h.2
    refine List.pairwise_cons.mpr ⟨fun z hz => ?_, ih⟩
    rcases List.mem_cons.mp hz with e | e
    · subst e; exact h.1
    · exact leS_trans h.1 ((List.pairwise_cons.mp ih).1 z e)
theorem sortS_uniq {ns ms : List Str} (p : ns.Perm ms) (h : sortedS ns = true) : ns = sortS ms := by
  refine sort_uniq leS_anti (p.trans (sortS_perm ms).symm) ?_ (sortS_sorted ms)
  cases ns with
  | nil => exact .nil
  | cons x l => exact rising_pair x l h
theorem maxI_spec : ∀ (ns : List Int) (m : Int), maxI m ns ∈ m :: ns ∧ ∀ y ∈ m :: ns, y ≤ maxI m ns
  | [], m => by simp [maxI]
  | x :: ns, m => by
    unfold maxI
    obtain ⟨h1, h2⟩ := maxI_spec ns (if x > m then x else m)
    refine ⟨?_, fun y hy => ?_⟩
    · rcases List.mem_cons.mp h1 with e | e
      · rw [e]; split <;> simp
      · exact List.mem_cons_of_mem _ (List.mem_cons_of_mem _ e)
    · have hm := h2 _ (List.mem_cons_self)
      rcases List.mem_cons.mp hy with e | e
      · subst e; exact Int.le_trans (by split <;> omega) hm
      · rcases List.mem_cons.mp e with e | e
        · subst e; exact Int.le_trans (by split <;> omega) hm
        · exact h2 y (List.mem_cons_of_mem _ e)
theorem minI_spec : ∀ (ns : List Int) (m : Int), minI m ns ∈ m :: ns ∧ ∀ y ∈ m :: ns, minI m ns ≤ y
  | [], m => by simp [minI]
  | x :: ns, m => by
    unfold minI
    obtain ⟨h1, h2⟩ := minI_spec ns (if x < m then x else m)
    refine ⟨?_, fun y hy => ?_⟩
    · rcases List.mem_cons.mp h1 with e | e
      · rw [e]; split <;> simp
      · exact List.mem_cons_of_mem _ (List.mem_cons_of_mem _ e)
    · have hm := h2 _ (List.mem_cons_self)
      rcases List.mem_cons.mp hy with e | e
      · subst e; exact Int.le_trans hm (by split <;> omega)
      · rcases List.mem_cons.mp e with e | e
        · subst e; exact Int.le_trans hm (by split <;> omega)
        · exact h2 y (List.mem_cons_of_mem _ e)

/-! ### tuples of ints and texts -/
abbrev tupO : PyProof.Rows.KeyOrd := PyProof.Rows.listOrd PyProof.Rows.itemOrd
def keT (x : List T) : List (Int ⊕ List Nat) := x.map itK
theorem insT_perm (x : List T) : ∀ l : List (List T), (insT x l).Perm (x :: l)
  | [] => .refl _
  | y :: l => by
    unfold insT
    split
    · exact ((insT_perm x l).cons y).trans (.swap _ _ _)
    · exact .refl _
theorem sortT_perm : ∀ l : List (List T), (sortT l).Perm l
  | [] => .refl _
  | x :: l => (insT_perm x _).trans ((sortT_perm l).cons x)
def leT (x y : List T) : Prop := ltT y x = false
theorem leT_total (x y : List T) : leT x y ∨ leT y x := by
  unfold leT
  cases h : ltT y x with
  | false => exact .inl rfl
  | true => exact .inr (tupO.kle_of_klt (a := keT y) (b := keT x) h)
theorem leT_trans {x y z : List T} (h1 : leT x y) (h2 : leT y z) : leT x z := PyProof.Rows.KeyOrd.kle_trans (O := tupO) (a := keT x) (b := keT y) (c := keT z) h1 h2
theorem insT_sorted (x : List T) : ∀ {l : List (List T)}, l.Pairwise leT → (insT x l).Pairwise leT
  | [], _ => by simp [insT]
  | y :: l, h => by
    have h' := List.pairwise_cons.mp h
    unfold insT
    split
    · rename_i hxy
      have hyx : leT y x := by
        rcases leT_total y x with q | q
        · exact q
        · unfold leT at q
          rw [hxy] at q; cases q
      refine List.pairwise_cons.mpr ⟨fun z hz => ?_, insT_sorted x h'.2⟩
      rcases List.mem_cons.mp ((insT_perm x l).mem_iff.mp hz) with e | e
      · subst e; exact hyx
      · exact h'.1 z e
    · rename_i hxy
      have hxy' : leT x y := Bool.eq_false_iff.mpr hxy
      refine List.pairwise_cons.mpr ⟨fun z hz => ?_, h⟩
      rcases List.mem_cons.mp hz with e | e
      · subst e; exact hxy'
      · exact leT_trans hxy' (h'.1 z e)
theorem sortT_sorted : ∀ l : List (List T), (sortT l).Pairwise leT
  | [] => .nil
  | x :: l => insT_sorted x (sortT_sorted l)
/-- of one shape -/
def ShT (shape : Nat → Bool) (x : List T) : Prop := shT shape 0 x = true
theorem keT_inj {shape : Nat → Bool} : ∀ {x y : List T} (i : Nat), shT shape i x = true → shT shape i y = true → keT x = keT y → x = y
  | [], [], _, _, _, _ => rfl
  | [], b :: y, _, _, _, e => by simp [keT] at e
  | a :: x, [], _, _, _, e => by simp [keT] at e
  | a :: x, b :: y, i, h1, h2, e => by
    rw [keT, keT, List.map_cons, List.map_cons] at e
    obtain ⟨e1, e2⟩ := List.cons.inj e
    have key : shT shape (i + 1) x = true → shT shape (i + 1) y = true → x = y := fun q1 q2 => keT_inj (i + 1) q1 q2 e2
    cases a <;> cases b <;> simp [shT, itK] at h1 h2 e1
    · rw [e1, key h1.2 h2.2]
    · rename_i s z
      have : s = z := by
        cases s; cases z
        simpa using e1
      rw [this, key h1.2 h2.2]
theorem leT_anti {shape : Nat → Bool} {x y : List T} (hx : ShT shape x) (hy : ShT shape y) (h1 : leT x y) (h2 : leT y x) : x = y :=
  keT_inj 0 hx hy (tupO.total (keT x) (keT y) h2 h1)
theorem sort_uniqOn {α : Type} {le : α → α → Prop} {P : α → Prop} (anti : ∀ a b, P a → P b → le a b → le b a → a = b) : ∀ {l m : List α}, (∀ x ∈ l, P x) → l.Perm m → l.Pairwise le → m.Pairwise le → l = m
  | [], m, _, p, _, _ => p.nil_eq
  | x :: l, [], _, p, _, _ => absurd p.length_eq (by simp)
  | x :: l, y :: m, hP, p, hl, hm => by
    have hx : x ∈ y :: m := p.mem_iff.mp (.head _)
    have hy : y ∈ x :: l := p.mem_iff.mpr (.head _)
    have hl' := List.pairwise_cons.mp hl
    have hm' := List.pairwise_cons.mp hm
    have e : x = y := by
      rcases List.mem_cons.mp hx with h | h
      · exact h
      · rcases List.mem_cons.mp hy with h' | h'
        · exact h'.symm
        · exact anti _ _ (hP _ (.head _)) (hP _ hy) (hl'.1 _ h') (hm'.1 _ h)
    subst e
    rw [sort_uniqOn anti (fun z hz => hP z (.tail _ hz)) (List.Perm.cons_inv p) hl'.2 hm'.2]
theorem sortT_uniq {shape : Nat → Bool} {xs ys : List (List T)} (hs : ∀ x ∈ ys, ShT shape x) (p : xs.Perm ys) (h : xs.Pairwise leT) : xs = sortT ys :=
  sort_uniqOn (P := ShT shape) (fun _ _ h1 h2 => leT_anti h1 h2) (fun x hx => hs x (p.mem_iff.mp hx)) (p.trans (sortT_perm ys).symm) h (sortT_sorted ys)
/-- the same things in another order are sorted alike -/
theorem sortT_congr {shape : Nat → Bool} {xs ys : List (List T)} (hs : ∀ x ∈ ys, ShT shape x) (p : xs.Perm ys) : sortT xs = sortT ys :=
  sortT_uniq hs ((sortT_perm xs).trans p) (sortT_sorted xs)
end PV

set_option maxRecDepth 100000
set_option maxHeartbeats 1000000
/-! ### sorted of a list of tuples of ints and texts -/
namespace PV
open L2 PyProof.Rows PySem.Spec PySem
def fV : T → V
  | .int i => .int i
  | .str s => .str s
  | _ => .non
def unK : Int ⊕ List Nat → T
  | .inl i => .int i
  | .inr l => .str ⟨l.toArray⟩
theorem items_of {shape : Nat → Bool} : ∀ {x : List T} {us : List Value} (i : Nat), Vals (x.map fV) us → shT shape i x = true → tupItems shape i us = some (keT x)
  | [], _, _, r, _ => by cases r; rfl
  | a :: x, _, i, r, h => by
    rw [List.map_cons] at r
    cases r with
    | cons r t =>
      cases a <;> simp [shT] at h
      · obtain ⟨tk, rfl⟩ := r
        have ih := items_of (i + 1) t h.2
        unfold tupItems
        rw [if_neg (by rw [h.1]; decide), ih]
        rfl
      · obtain ⟨tk, rfl⟩ := r
        have ih := items_of (i + 1) t h.2
        unfold tupItems
        rw [if_pos h.1, ih]
        rfl
theorem un_key {shape : Nat → Bool} : ∀ {x : List T} (i : Nat), shT shape i x = true → (keT x).map unK = x
  | [], _, _ => rfl
  | a :: x, i, h => by
    cases a <;> simp [shT] at h
    · have ih := un_key (i + 1) h.2
      simp only [keT, List.map_cons, itK, unK] at ih ⊢
      rw [ih]
    · have ih := un_key (i + 1) h.2
      simp only [keT, List.map_cons, itK, unK] at ih ⊢
      rw [ih]
theorem tups_of {h : Heap} {shape : Nat → Bool} : ∀ {vs : List Value}, (∀ v ∈ vs, ∃ f, TupOf h shape v f) → ∃ fs, TupsOf h shape vs fs
  | [], _ => ⟨[], .nil⟩
  | v :: vs, q => by
    obtain ⟨f, hf⟩ := q v (.head _)
    obtain ⟨fs, r⟩ := tups_of fun u hu => q u (.tail _ hu)
    exact ⟨f :: fs, .cons hf r⟩
section
variable {X : Cx}
/-- sorted(xs), xs a list of tuples of ints and texts of one shape -/
def rSortedTI (K : PySem.W.Frag) : List V → Hp → VK → Prop := fun vs H Q => ∃ (a : Addr) (zs : List (V × List T)) (shape : Nat → Bool), vs = [V.ref a] ∧ SqL K H a (zs.map (·.1)) ∧
  (∀ z ∈ zs, ∃ t, z.1 = V.ref t ∧ SqT K H t (z.2.map fV) ∧ shT shape 0 z.2 = true ∧ z.2 ≠ []) ∧
  ∀ (ys : List (V × List T)) (p : Addr), ys.Perm zs → (ys.map (·.2)).Pairwise leT → H p = none → Q (.ref p) (upd H p (.lst (ys.map (·.1))))
theorem cr_sortedTI : CallR X (.builtin "sorted") (rSortedTI X.K) := by
  intro pins s σ H vs us Q I r h
  obtain ⟨a, zs, shape, rfl, hs, hx, q⟩ := h
  obtain ⟨its, rv, hl, hz⟩ := I.list hs
  rw [Vals.ref1 r]
  obtain ⟨e1, e2⟩ := refs_back rv fun x m => by
    obtain ⟨z, hz, rfl⟩ := List.mem_map.mp m
    obtain ⟨t, e, _⟩ := hx z hz
    exact ⟨t, e⟩
  -- each item
  have item : ∀ (z : V × List T) (v : Value), z ∈ zs → RelV z.1 v → (∃ f, TupOf s.heap shape v f) ∧ G.tupKeyC s.heap shape v = some (keT z.2) := by
    intro z v hz rz
    obtain ⟨t, e, ht, hsh, hne⟩ := hx z hz
    rw [e] at rz
    cases rz
    obtain ⟨its2, r2, hT, _⟩ := I.tuple ht
    obtain ⟨o, ho, hc, n, hd⟩ := hT
    have hi := items_of 0 r2 hsh
    refine ⟨?_, ?_⟩
    · cases hz2 : z.2 with
      | nil => exact absurd hz2 hne
      | cons b x =>
        rw [hz2] at r2 hsh
        rw [List.map_cons] at r2
        cases r2 with
        | cons rb rt =>
          rename_i u ut
          refine ⟨u, t, o, _, n, rfl, ho, hc, hd, rfl, fun h0 => ?_, fun h0 => ?_⟩
          · cases b <;> simp [shT, h0] at hsh
            obtain ⟨tk, rfl⟩ := rb
            exact ⟨_, _, rfl⟩
          · cases b <;> simp [shT, h0] at hsh
            obtain ⟨tk, rfl⟩ := rb
            exact ⟨_, _, rfl⟩
    · unfold G.tupKeyC
      rw [if_pos (by simp only [G.isTupObj, ho, hc]; rfl)]
      simp only [tupKey, ho, hd]
      exact hi
  have at_v : ∀ v ∈ its, ∃ z ∈ zs, RelV z.1 v := by
    intro v hv
    obtain ⟨t, rfl⟩ := e2 v hv
    have hm : V.ref t ∈ zs.map (·.1) := by rw [e1]; exact List.mem_map.mpr ⟨_, hv, rfl⟩
    obtain ⟨z, hz, ez⟩ := List.mem_map.mp hm
    exact ⟨z, hz, by rw [ez]; rfl⟩
  obtain ⟨fs, hT⟩ := tups_of (h := s.heap) (shape := shape) (vs := its) fun v hv => by
    obtain ⟨z, hz, rz⟩ := at_v v hv
    exact (item z v hz rz).1
  have hK : ∀ v, v ∈ its → ∃ l, G.tupKeyC s.heap shape v = some l := fun v hv => by
    obtain ⟨z, hz, rz⟩ := at_v v hv
    exact ⟨_, (item z v hz rz).2⟩
  let g : Value → V × List T := fun v => (backV v, ((G.tupKeyC s.heap shape v).getD []).map unK)
  have ez : zs = its.map g := by
    have key : ∀ (zs : List (V × List T)) (its : List Value), Vals (zs.map (·.1)) its → (∀ z ∈ zs, ∀ v, RelV z.1 v → g v = z) → zs = its.map g := by
      intro zs
      induction zs with
      | nil => intro its r _; cases r; rfl
      | cons z zs ih =>
        intro its r h
        rw [List.map_cons] at r
        cases r with
        | cons r t =>
          rw [List.map_cons, h z (.head _) _ r, ← ih _ t fun z' hz' => h z' (.tail _ hz')]
    refine key zs its rv fun z hz v rz => ?_
    obtain ⟨t, e, ht, hsh, hne⟩ := hx z hz
    show (backV v, ((G.tupKeyC s.heap shape v).getD []).map unK) = z
    rw [(item z v hz rz).2, Option.getD_some, un_key 0 hsh]
    have : backV v = z.1 := by
      rw [e] at rz ⊢
      cases rz
      rfl
    rw [this]
  refine G.sorted_tups (shape := shape) (fs := fs) hl.isList hT hK (by rw [← rv.length]; exact hz) fun st' a1 a2 a3 => ?_
  obtain ⟨out, hout⟩ : ∃ out : List Value, out = ((arrOf st').map (·.2)).toList := ⟨_, rfl⟩
  have pm : out.Perm its := by
    rw [hout, Array.toList_map]
    have z := (Array.perm_iff_toList_perm.mp a1).map Prod.snd
    rw [pairsOf_toList, List.map_snd_zip (Nat.le_refl _)] at z
    exact z
  have fst_snd : ∀ p ∈ (arrOf st').toList, p.1 = p.2 ∧ p.1 ∈ its := fun p hp => by
    have := (Array.perm_iff_toList_perm.mp a1).mem_iff.mp hp
    rw [pairsOf_toList] at this
    exact mem_zip_self this
  have srt : ((out.map g).map (·.2)).Pairwise leT := by
    rw [hout, Array.toList_map, List.map_map, List.map_map, List.pairwise_map]
    rw [List.pairwise_iff_getElem]
    intro i j hi hj hij
    have hsz : (arrOf st').size = (pairsOf its).size := a1.size_eq
    have q := a2 i j (Nat.le_of_lt hij) (by rw [← hsz]; simpa using hj)
    have m1 := fst_snd _ (List.getElem_mem hi)
    have m2 := fst_snd _ (List.getElem_mem hj)
    obtain ⟨z1, hz1, rz1⟩ := at_v _ m1.2
    obtain ⟨z2, hz2, rz2⟩ := at_v _ m2.2
    have k1 := (item z1 _ hz1 rz1).2
    have k2 := (item z2 _ hz2 rz2).2
    obtain ⟨_, _, _, sh1, _⟩ := hx z1 hz1
    obtain ⟨_, _, _, sh2, _⟩ := hx z2 hz2
    have g1 : (g (arrOf st').toList[i].2).2 = z1.2 := by
      show ((G.tupKeyC s.heap shape (arrOf st').toList[i].2).getD []).map unK = z1.2
      rw [← m1.1, k1, Option.getD_some, un_key 0 sh1]
    have g2 : (g (arrOf st').toList[j].2).2 = z2.2 := by
      show ((G.tupKeyC s.heap shape (arrOf st').toList[j].2).getD []).map unK = z2.2
      rw [← m2.1, k2, Option.getD_some, un_key 0 sh2]
    show leT (g (arrOf st').toList[i].2).2 (g (arrOf st').toList[j].2).2
    rw [g1, g2]
    have K1 : KK (G.tupKindC s.heap shape) (arrOf st') i = keT z1.2 := by
      unfold KK
      have : (arrOf st')[i]? = some (arrOf st').toList[i] := by rw [← Array.getElem?_toList, List.getElem?_eq_getElem hi]
      rw [this]
      show (G.tupKeyC s.heap shape (arrOf st').toList[i].1).getD [] = _
      rw [k1]; rfl
    have K2 : KK (G.tupKindC s.heap shape) (arrOf st') j = keT z2.2 := by
      unfold KK
      have : (arrOf st')[j]? = some (arrOf st').toList[j] := by rw [← Array.getElem?_toList, List.getElem?_eq_getElem hj]
      rw [this]
      show (G.tupKeyC s.heap shape (arrOf st').toList[j].1).getD [] = _
      rw [k2]; rfl
    rw [K1, K2] at q
    exact q
  obtain ⟨ep, he'⟩ := PyProof.Rows.sortedAll_at s.heap its ((arrOf st').map (·.2))
  have hlen : (out.map backV).length ≤ sizeLine := by
    rw [List.length_map, pm.length_eq, ← rv.length]
    exact hz
  have e3 : ∀ u ∈ out, ∃ a, u = Value.ref a := fun u hu => e2 u (pm.mem_iff.mp hu)
  have em : (out.map g).map (·.1) = out.map backV := by rw [List.map_map]; rfl
  have hq := q (out.map g) (s.heap.objs.size + 1) (by rw [ez]; exact pm.map g) srt (I.hok.fresh (Nat.le_succ _))
  rw [em] at hq
  exact ⟨.ref _, upd H (s.heap.objs.size + 1) (.lst (out.map backV)), I.laid (t' := s.toks) (fun _ _ => PyProof.Rows.sortedAll_old) (Nat.le_succ _) ⟨hlen, out, ep, vals_back e3, by rw [hout, Array.toArray_toList]; exact he'⟩, rfl, hq⟩
end
end PV

set_option maxRecDepth 100000
set_option maxHeartbeats 1000000
/-! ### t[::-1] of tuples -/
namespace PV
open L2 PyProof.Rows PySem.Spec PySem HT
section
variable {prog : Program} {w : World} {A : Around} {E : Value → Shared → Prop} {s : Shared}
theorem adjust_rev (n : Nat) : Builtin.Slice.sliceAdjust none none (-1) (n : Int) = ((n : Int) - 1, -1) := by
  unfold Builtin.Slice.sliceAdjust
  rfl
theorem places_rev (n : Nat) : Builtin.Slice.slicePlaces ((n : Int) - 1) (-1) (-1) = n := by
  unfold Builtin.Slice.slicePlaces
  rw [if_neg (by decide)]
  have e : -(-1 : Int) = 1 := by decide
  rw [e, Int.ediv_one]
  split <;> omega
theorem applied_rev {sl : Addr} {vl vu vs : Value} {n : Nat} {Q : Int × Int × Nat → Shared → Prop} (hs : s.heap.IsSliceOf sl vl vu vs) (pl : IsPart vl none) (pu : IsPart vu none) (ps : IsPart vs (some (-1)))
    (h : Q ((n : Int) - 1, -1, n) s) : wpAny (model prog w) A (Builtin.Slice.sliceApplied (.ref sl) (pure (n : Int))) Q E s := by
  obtain ⟨os, hos, hcs, hds⟩ := id hs
  unfold Builtin.Slice.sliceApplied Builtin.Slice.sliceFields
  refine wpAny_bind (wpAny_bind (wpAny_field hos hds (x := vl) rfl (wpAny_bind (wpAny_field hos hds (x := vu) rfl (wpAny_bind (wpAny_field hos hds (x := vs) rfl (wpAny_pure ?_)))))))
  refine wpAny_bind (slicePart_ ps ?_)
  show wpAny _ _ (if ((-1 : Int) == 0) = true then _ else _) _ _ s
  rw [if_neg (by decide)]
  refine wpAny_bind (slicePart_ pl (wpAny_bind (slicePart_ pu (wpAny_bind (wpAny_pure ?_)))))
  show wpAny _ _ (match Builtin.Slice.sliceAdjust none none (-1) (n : Int) with | (lo, hi) => pure (lo, (-1 : Int), Builtin.Slice.slicePlaces lo hi (-1))) _ _ s
  rw [adjust_rev n]
  show wpAny _ _ (pure ((n : Int) - 1, (-1 : Int), Builtin.Slice.slicePlaces ((n : Int) - 1) (-1) (-1))) _ _ s
  rw [places_rev]
  exact wpAny_pure h
theorem pick_rev (xs : Array Value) : ((List.range xs.size).filterMap fun (m : Nat) => xs[(((xs.size : Int) - 1) + (m : Int) * (-1)).toNat]?).toArray = xs.toList.reverse.toArray := by
  congr 1
  have key : ∀ k, k ≤ xs.size → ((List.range k).filterMap fun (m : Nat) => xs[(((xs.size : Int) - 1) + (m : Int) * (-1)).toNat]?) = xs.toList.reverse.take k := by
    intro k
    induction k with
    | zero => intro _; rfl
    | succ k ih =>
      intro hk
      have e : (((xs.size : Int) - 1) + (k : Int) * (-1)).toNat = xs.size - 1 - k := by omega
      have hlt : xs.size - 1 - k < xs.size := by omega
      rw [List.range_succ, List.filterMap_append, ih (by omega), List.take_add_one]
      congr 1
      rw [List.getElem?_reverse (by rw [Array.length_toList]; omega), Array.length_toList]
      simp only [List.filterMap_cons, List.filterMap_nil, e]
      rw [Array.getElem?_toList, Array.getElem?_eq_getElem hlt]
      rfl
  rw [key xs.size (Nat.le_refl _), List.take_of_length_le (by rw [List.length_reverse, Array.length_toList]; exact Nat.le_refl _)]
theorem getItem_tuple_rev {t sl : Addr} {items : Array Value} {vl vu vs : Value} {Q : Value → Shared → Prop} (ht : IsTup s.heap t items) (hs : s.heap.IsSliceOf sl vl vu vs) (pl : IsPart vl none) (pu : IsPart vu none) (ps : IsPart vs (some (-1)))
    (h : Q (.ref s.heap.objs.size) { s with heap := s.heap.push { cls := .type "tuple", data := .seq items.toList.reverse.toArray } })
    (hsz : items.size ≤ sizeLine) : wpAny (model prog w) A (getItem (.ref t) (.ref sl)) Q E s := by
  have htake : sizeOk (.seq items.toList.reverse.toArray) := by
    show items.toList.reverse.toArray.size ≤ sizeLine
    rw [List.size_toArray, List.length_reverse, Array.length_toList]
    exact hsz
  obtain ⟨os, hos, hcs, hds⟩ := id hs
  have hTs : s.TypeIs (.ref sl) "slice" := ⟨os, hos, hcs⟩
  unfold getItem
  try with_reducible refine wpAny_holding ?_
  first | refine wpAny_bind (wpAny_pure ?_) | skip
  refine wpAny_bind (wpAny_sequenceKey ht.typeIs (by decide) ?_)
  refine wpAny_bind (wpAny_callSpecial?_slot (name := Str.ofString "__getitem__") ht.typeIs PyProof.Rows.slot_tuple_getitem
    (wpAny_call_entry PyProof.Rows.slot_tuple_getitem ht.typeIs entry_tuple_getitem ?_ (args_tuple_getitem _ _)))
  show wpAny _ _ (Builtin.Tuple.tupleItemsOf (.ref t) >>= _) _ _ s
  refine wpAny_bind (tupleItemsOf_ ht ?_)
  refine wpAny_bind (wpAny_typeOf hTs ?_)
  rw [if_pos (by decide)]
  refine wpAny_bind (applied_rev hs pl pu ps ?_)
  have hno : ¬ ((((items.size : Int) - 1) == 0 && (-1 : Int) == 1 && items.size == items.size) = true) := by
    intro q
    rw [Bool.and_eq_true, Bool.and_eq_true] at q
    exact absurd q.1.2 (by decide)
  show wpAny _ _ (if (((items.size : Int) - 1) == 0 && (-1 : Int) == 1 && items.size == items.size) = true then _ else _) _ _ s
  rw [if_neg hno, pick_rev]
  first
    | exact wpAny_bind (m := Builtin.Tuple.tupleExact _) (wpAny_newObj_type (wpAny_pure ⟨_, rfl, wpAny_pure h⟩) htake)
    | exact wpAny_bind (m := Builtin.Tuple.tupleExact _) (wpAny_newObj_type (wpAny_bind (wpAny_pure (wpAny_pure ⟨_, rfl, wpAny_pure h⟩))) htake)
    | exact wpAny_bind (wpAny_bind (m := Builtin.Tuple.tupleExact _) (wpAny_newObj_type (wpAny_pure (wpAny_pure ⟨_, rfl, wpAny_pure h⟩)) htake))
    | exact wpAny_bind (wpAny_bind (m := Builtin.Tuple.tupleExact _) (wpAny_newObj_type (wpAny_pure ⟨_, rfl, wpAny_pure h⟩) htake))
end
section
variable {X : Cx}
/-- xs[::-1], a list or a tuple -/
def tRevA (K : PySem.W.Frag) (te : TE) : TE := fun σ H Q => te σ H fun x H1 => ∃ a xs, x = .ref a ∧ ((SqL K H1 a xs ∧ ∀ p, H1 p = none → Q (.ref p) (upd H1 p (.lst xs.reverse))) ∨ (SqT K H1 a xs ∧ ∀ p, H1 p = none → Q (.ref p) (upd H1 p (.tup xs.reverse))))
theorem pe_revA {e : Expr} {te : TE} {k : Nat} {p1 p2 p3 pos : Pos} (he : PE X e te) : PE X (.Subscript e (.Slice none none (some (.UnaryOp .USub (.Constant (.int 1) k p1) p2)) p3) pos) (tRevA X.K te) := by
  refine ⟨fun pins s σ H Q I h => ?_⟩
  refine Subscript_ (thn (he.run pins s σ H _ I h) fun v s1 ⟨x, H1, I1, r1, q1⟩ => ?_)
  obtain ⟨a, xs, ex, hx⟩ := q1
  subst ex
  cases r1
  have hst : PO X (some (.UnaryOp .USub (.Constant (.int 1) k p1) p2)) (tPart (tUn (rU fun i => .int (-i)) (tC (.int 1)))) := po_some (pe_un un_neg pe_int)
  refine wpAny_Slice (thn (po_none.run pins s1 σ H1 (fun o H2 => o = none ∧ H2 = H1) I1 ⟨rfl, rfl⟩) fun vl s2 ⟨l, H2, I2, pl, el, e2⟩ => ?_)
  subst el e2
  refine thn (po_none.run pins s2 σ H2 (fun o H3 => o = none ∧ H3 = H2) I2 ⟨rfl, rfl⟩) fun vu s3 ⟨u, H3, I3, pu, eu, e3⟩ => ?_
  subst eu e3
  refine thn (hst.run pins s3 σ H3 (fun o H4 => o = some (-1) ∧ H4 = H3) I3 ⟨1, rfl, -1, rfl, rfl, rfl⟩) fun vs s4 ⟨o, H4, I4, ps, eo, e4⟩ => ?_
  subst eo e4
  have I5 : Inv X pins σ H4 { s4 with heap := s4.heap.push { cls := .type "slice", data := .fields #[vl, vu, vs] } } := I4.kept (t' := s4.toks) fun b ob q => Heap.get?_push_of_some _ q
  show wpAny (model X.prog X.w) X.A (subscriptTail e (.Slice none none (some (.UnaryOp .USub (.Constant (.int 1) k p1) p2)) p3) (.ref a) (.ref s4.heap.objs.size)) (EP X pins σ Q) X.xe { s4 with heap := s4.heap.push { cls := .type "slice", data := .fields #[vl, vu, vs] } }
  rcases hx with ⟨hx, q⟩ | ⟨hx, q⟩
  · obtain ⟨its, r, ht, hz⟩ := I5.list hx
    have hlen := r.length
    refine tail_any (ops := [.ref a, .ref s4.heap.objs.size]) ht.isList.typeIs (PySem.slot_list_getitem.lookup) ?_ (by with_unfolding_all rfl)
    refine wpAny_getItem_list_slice ht.isList (Heap.IsSliceOf.new _ vl vu vs) pl pu ps (by decide) ?_ (by rw [List.size_toArray]; omega)
    rw [PySem.W.krv_pick]
    refine ⟨.ref _, _, I5.laid (t' := s4.toks) (o := .lst xs.reverse) (fun b ob q => Heap.get?_push_of_some _ q) (Nat.le_refl _) ?_, rfl, q _ (I5.hok.fresh (Nat.le_refl _))⟩
    exact ⟨by rw [List.length_reverse]; exact hz, _, 0, r.reverse, Heap.get?_push_size _ rfl⟩
  · obtain ⟨its, r, ht, hz⟩ := I5.tuple hx
    have hlen := r.length
    refine tail_any (ops := [.ref a, .ref s4.heap.objs.size]) ht.typeIs (PyProof.Rows.slot_tuple_getitem.lookup) ?_ (by with_unfolding_all rfl)
    refine getItem_tuple_rev ht (Heap.IsSliceOf.new _ vl vu vs) pl pu ps ?_ (by rw [List.size_toArray]; omega)
    refine ⟨.ref _, _, I5.laid (t' := s4.toks) (o := .tup xs.reverse) (fun b ob q => Heap.get?_push_of_some _ q) (Nat.le_refl _) ?_, rfl, q _ (I5.hok.fresh (Nat.le_refl _))⟩
    exact ⟨by rw [List.length_reverse]; exact hz, _, r.reverse, IsTup.new _ _⟩
/-! ### list.count of plain things -/
def flU : Value → V
  | .none => .non
  | .bool b => .bl b
  | .int i _ => .int i
  | .str x _ => .str x
  | _ => .non
theorem flU_of {v : V} {u : Value} (r : RelV v u) (f : flatV v = true) : flU u = v := by
  cases v <;> simp [flatV] at f
  · cases r; rfl
  · cases r; rfl
  · obtain ⟨t, rfl⟩ := r; rfl
  · obtain ⟨t, rfl⟩ := r; rfl
theorem count_of {k : V} : ∀ {vs : List V} {us : List Value}, Vals vs us → vs.all flatV = true → us.countP (fun u => eqV (flU u) k) = vs.countP fun y => eqV y k
  | [], _, r, _ => by cases r; rfl
  | v :: vs, _, r, f => by
    cases r with
    | cons r t =>
      rw [List.all_cons, Bool.and_eq_true] at f
      rw [List.countP_cons, List.countP_cons, count_of t f.2, flU_of r f.1]
theorem mem_rel {P : V → Prop} : ∀ {vs : List V} {us : List Value} {u : Value}, Vals vs us → (∀ v ∈ vs, P v) → u ∈ us → ∃ v, P v ∧ RelV v u
  | [], _, _, r, _, h => by cases r; cases h
  | v :: vs, _, u, r, f, h => by
    cases r with
    | cons r t =>
      rcases List.mem_cons.mp h with e | h
      · subst e; exact ⟨v, f v (.head _), r⟩
      · exact mem_rel t (fun z hz => f z (.tail _ hz)) h
def rCntV (K : PySem.W.Frag) : V → List V → Hp → VK → Prop := fun x xs H Q => ∃ (p : Addr) (vs : List V) (k : V), x = .ref p ∧ xs = [k] ∧ SqL K H p vs ∧ vs.all flatV = true ∧ flatV k = true ∧ Q (.int (vs.countP fun y => eqV y k : Nat)) H
theorem mt_countV : MtR X "list.count" (rCntV X.K) := by
  intro pins s σ H x xs v us Q I rx rxs h
  obtain ⟨p, vs, k, rfl, rfl, hs, fv, fk, q⟩ := h
  cases rx
  obtain ⟨u, rfl, ru⟩ := rxs.one
  obtain ⟨its, rv, ⟨⟨cls, dd, data, sl⟩, n, ho, hc, hdn, hd⟩, hlen⟩ := I.list hs
  simp only at hc hd
  subst hc hd
  have each : ∀ (A : Around) (s : Shared), ∀ y ∈ its.toArray, SeqAt.EqAt A s y u (eqV (flU y) k) := fun A s y hy => by
    obtain ⟨z, fz, rz⟩ := mem_rel (P := fun v => flatV v = true) rv (List.all_eq_true.mp fv) (by simpa using hy)
    rw [flU_of rz fz]
    exact eqAt_V rz ru fz fk
  refine call_meets PySem.F.slot_list_count ⟨_, ho, rfl⟩ PySem.F.entry_list_count (PySem.F.args_list_count_2 _ _)
    (SeqAt.list_countAt p its.toArray n dd sl u fun z => eqV (flU z) k) ⟨ho, each _ _, ?_⟩
  have ec : its.toArray.toList.countP (fun z => eqV (flU z) k) = vs.countP fun y => eqV y k := count_of rv fv
  refine ⟨.int (vs.countP fun y => eqV y k : Nat), H, I.tok _, ⟨s.toks, ?_⟩, q⟩
  show Value.int ((its.toArray.toList.countP (fun z => eqV (flU z) k) : Nat) : Int) s.toks = Value.int ((vs.countP fun y => eqV y k : Nat) : Int) s.toks
  rw [ec]
end
end PV

set_option maxRecDepth 100000
set_option maxHeartbeats 1000000
/-! ### what is caught stays known by its class -/
namespace PV
open L2 PyProof.Rows PySem.Spec PySem
section
variable {X : Cx} {pins : List (Addr × Obj)} {σ : L2.St} {H : Hp} {s : Shared}
/-- a pinned object that is newer than the entry is tracked -/
theorem Inv.keepE {a : Addr} {cls : Value} {ob : Obj} {fs : Array Value} (J : L2.Inv X ((a, ob) :: pins) σ H s) (hex : X.ex = []) (z : Zc cls none ob) (hd : ob.data = .fields fs)
    (new0 : X.s_0.heap.get? a = none) (np : ∀ p ∈ X.pn ++ pins, p.1 ≠ a) : L2.Inv X pins σ (upd H a (ExK cls a)) s := by
  have pa := J.pin (a, ob) (List.mem_append_right _ (.head _))
  obtain ⟨ha, hn, hL, hF, hc⟩ := pa
  have old : ∀ b o, X.s_0.heap.get? b = some o → b ≠ a := fun b o e q => by
    rw [q, new0] at e; cases e
  have some_ne : ∀ {b : Addr} {u : HO}, H b = some u → b ≠ a := fun {b u} e q => by
    rw [q] at e
    have hn' : H a = none := hn
    rw [hn'] at e; cases e
  have ha' : s.heap.get? a = some ob := ha
  refine ⟨J.ok, J.os, J.bare, ⟨J.base.keep, J.base.slot, fun b o e n q => ?_, J.base.there, fun b xs e => ?_, fun b o u e => ?_, fun b ps e => ?_⟩, J.loc, J.cell, ?_, fun x c e => ?_, fun p hp => ?_, fun b u e => ?_, J.len⟩
  · rw [upd_ne (old b o e)]; exact J.base.free b o e n q
  · have q := J.base.tups b xs e
    rw [upd_ne (some_ne q)]; exact q
  · have q := J.base.frzs b o u e
    rw [upd_ne (some_ne q)]; exact q
  · obtain ⟨more, q⟩ := J.base.tbls b ps e
    exact ⟨more, by rw [upd_ne (some_ne q)]; exact q⟩
  · rw [upd_ne (fun q => hL q.symm)]; exact J.free
  · have hca : c ≠ a := fun q => by
      obtain ⟨v, o, ho, hdat⟩ := J.cell x c e
      rw [q] at ho
      have ho' : s.heap.get? a = some o := ho
      rw [ha'] at ho'
      cases ho'
      have hdat' : ob.data = .cell v := hdat
      rw [hd] at hdat'; cases hdat'
    rw [upd_ne hca]; exact J.freeC x c e
  · have hp2 : p ∈ X.pn ++ ((a, ob) :: pins) := by
      rcases List.mem_append.mp hp with q | q
      · exact List.mem_append_left _ q
      · exact List.mem_append_right _ (.tail _ q)
    obtain ⟨e1, e2, e3⟩ := J.pin p hp2
    exact ⟨e1, by rw [upd_ne (np p hp)]; exact e2, e3⟩
  · by_cases q : b = a
    · subst q
      rw [upd_same] at e
      cases e
      exact ⟨⟨ob, ha', z, fs, hd⟩, ⟨ob, ha'⟩, fun h1 h2 ⟨o, e1, r⟩ k => ⟨o, k o e1, r⟩⟩
    · rw [upd_ne q] at e
      exact (J.hok b u e).stay (fun c v _ r => r) (fun c r => by rw [upd_ne (some_ne r)]; exact r) fun c xs r => by rw [upd_ne (some_ne r)]; exact r
end
/-- what is wished of the body's exception where its clause only keeps it: slot m's name is bound to it -/
def wKeep (K : PySem.W.Frag) (c : Value) (i m : Nat) (Wout : WX) (D : Ends) : WX := fun cls d σ H =>
  ∃ b, PySem.W.exmOne K cls c = some b ∧ (b = true → d = none ∧ ∀ a, H a = none → D.nx ((((σ.set i (some (.ref a))).set m (some (.ref a))).set i none)) (upd H a (ExK cls a))) ∧ (b = false → Wout cls d σ H)
section
variable {X : Cx} {x n y : Str} {c : Value} {i m : Nat} {body : List Stmt} {np pos pos' p1 p2 p3 : Pos} {tb : WX → TS} {Wout : WX}
theorem ps_try_keep (stk : X.stack = X.env :: X.outer) (frm : X.env.frame = some X.env.locals) (hex : X.ex = []) (nd : X.N.Nodup) (hi : X.N[i]? = some n) (hm : X.N[m]? = some y) (him : i ≠ m) (kn : X.env.kindOf n = some .local) (ky : X.env.scope.names.lookup y = some .local)
    (vn : Vis X.env.scope n) (g1 : (n == ("__debug__" : Str)) = false) (g2 : (n == ("__classdict__" : Str)) = false) (hc : Names X x c) (tk : Takes X Wout)
    (hb : ∀ (W : WX) (pn : List (Addr × Obj)) (xe : Value → Shared → Prop), Takes (X.tr pn xe) W → PassesOwn (model X.prog X.w) X.A X.env xe → PSs (X.tr pn xe) body (tb W)) :
    PS X (.Try body [.ExceptHandler (some (.Name x np)) (some n) [.Assign [.Name y p1] (.Name n p2) p3] pos'] [] [] pos) (fun D σ H => tb (wKeep X.K c i m Wout D) D σ H) := by
  refine ⟨fun pins s σ H D J0 wish => ?_⟩
  have xok := J0.ok
  have frs0 : X.A.frames = some (X.env :: X.outer) := by rw [xok.frames, stk]
  have locn : Loc X.env.scope n := .inl kn
  have suite_ : ∀ (a : Addr) (pn : List (Addr × Obj)), PSs (X.suite a pn) [.Assign [.Name y p1] (.Name n p2) p3] (tAsg (tVar i) (gName m)) := fun a pn =>
    pss_one (ps_set (X := X.suite a pn) nd hm (.inl ky) (pe_var (X := X.suite a pn) hi vn g1 g2) rfl (.inr ky))
  refine wpAny_Try_except ?_
  refine wpAny_mono ((hb (wKeep X.K c i m Wout D) (X.pn ++ pins) (fun e t1 => wpAny (model X.prog X.w) X.A (noteFrame e X.env) (fun _ t2 => wpAny (model X.prog X.w) X.A (setFlight e none) (fun _ t3 =>
    wpAny (model X.prog X.w) X.A (handleBy e X.env [.ExceptHandler (some (.Name x np)) (some n) [.Assign [.Name y p1] (.Name n p2) p3] pos']) (SP X pins D) X.xe t3) X.xe t2) X.xe t1) (fun u t1 air => ?_) PassesOwn.looking).run [] s σ H D (J0.toTry _) wish) (fun f t1 ended => ?_) (fun e t1 he => he)
  · obtain ⟨a, B, sI, pins', σ', H', cls, d, rfl, JJ, nb, up, sky, na, os, ag, b, eb, yes, no⟩ := air
    have J : L2.Inv X pins σ' H' sI := JJ.ofTry xok
    have sky' : Sky B (X.env :: X.outer) a (Zc cls d) X.env.locals t1.heap := by rw [← stk]; exact sky
    show wpAny (model X.prog X.w) X.A (noteFrame (.ref a) X.env) _ _ _
    refine Sky.land Zc.steady frs0 frm sky' fun h3 fl3 up3 => ?_
    have J3 : L2.Inv X pins σ' H' { t1 with heap := h3 } := J.landed nb fl3.1 (up.trans up3) os ag
    obtain ⟨ob3, fs3, at3, zc3, dat3⟩ := fl3.there
    have notFr : a ∉ frs (X.env :: X.outer) := fun q => by
      obtain ⟨_, o', e', hnf⟩ := fl3.2.2.1.mem q
      rw [at3] at e'; cases e'
      exact hnf _ dat3
    have nL : a ≠ X.env.locals := fun q => notFr (List.mem_filterMap.mpr ⟨X.env, List.mem_cons_self, by rw [frm, q]⟩)
    have nF : a ∉ X.fs := fun q => by
      obtain ⟨e, he, q'⟩ := List.mem_filterMap.mp q
      exact notFr (List.mem_filterMap.mpr ⟨e, List.mem_cons_of_mem _ he, q'⟩)
    -- it is newer than all that stands
    have newI : sI.heap.get? a = none := by
      cases q : sI.heap.get? a with
      | none => rfl
      | some o =>
        have := nb a o q (by rw [stk]; exact notFr)
        rw [fl3.2.1] at this; cases this
    have new0 : X.s_0.heap.get? a = none := by
      cases q : X.s_0.heap.get? a with
      | none => rfl
      | some o =>
        obtain ⟨o', e'⟩ := J.base.there a o q (by rw [hex]; exact fun z => nomatch z)
        rw [newI] at e'; cases e'
    have np_ : ∀ p ∈ X.pn ++ pins, p.1 ≠ a := fun p hp q => by
      have := (J.pin p hp).1
      rw [q, newI] at this; cases this
    refine wpAny_handleBy_cons (codeAny_handlers_test ?_) (by intro q; cases q)
    have look : PySem.W.Looks (model X.prog X.w) h3 (typeOf (.ref a)) cls := fun A Q E s k q => wpAny_typeOf_ref (k _ _ at3) (by rw [zc3.1]; exact q)
    have meets_ := PySem.W.exm_one (M := model X.prog X.w) (J3.kIn) look eb
    have S3 := J3.suite at3 dat3 na nL nF
    have named : ∀ {Q : Value → Shared → Prop} {E : Value → Shared → Prop}, Q c { t1 with heap := h3 } → wpAny (model X.prog X.w) (X.A.mark (some (.ref a))) (eval (.Name x np) X.env) Q E { t1 with heap := h3 } := fun {Q E} q => by
      obtain ⟨hg, hdbg, hm | ⟨hm, hv, hnn⟩⟩ := hc
      · exact ld_glob (X := X.suite a ((a, ob3) :: (X.pn ++ pins))) S3 hg hm q hdbg
      · exact ld_blt (X := X.suite a ((a, ob3) :: (X.pn ++ pins))) S3 hg hm hv q hnn hdbg
    refine named (meets_.here ?_)
    cases b with
    | true =>
      obtain ⟨hd0, wish2⟩ := yes rfl
      subst hd0
      refine codeAny_handlers_suite_as ?_
      refine HandSPX.lands_againZ fl3 fun h4 fl4 up4 => ?_
      have J4 : L2.Inv X pins σ' H' { t1 with heap := h4 } := J.landed nb fl4.1 ((up.trans up3).trans up4) os ag
      obtain ⟨ob4, fs4, at4, zc4, dat4⟩ := fl4.there
      have S4 := J4.suite at4 dat4 na nL nF
      refine store_ok (X := X.suite a ((a, ob4) :: (X.pn ++ pins))) (v := .ref a) S4 nd hi locn rfl (fun t5 S5 => ?_) (.inr kn)
      have hil : i < σ'.length := by
        rw [J4.len]; exact (List.getElem?_eq_some_iff.mp hi).1
      refine wpAny_mono ((suite_ a ((a, ob4) :: (X.pn ++ pins))).run [] t5 _ H' { nx := fun σ6 H6 => H6 = H' ∧ σ6 = ((σ'.set i (some (.ref a))).set m (some (.ref a))), rt := fun _ _ => False } S5 ⟨.ref a, by rw [List.getElem?_set_self hil], rfl, rfl⟩) (fun f t6 ended => ?_) (fun _ _ z => False.elim z)
      have fin_ : ∀ {σ6 : L2.St} {Q : Shared → Prop}, L2.Inv (X.suite a ((a, ob4) :: (X.pn ++ pins))) [] σ6 H' t6 → (∀ t7, L2.Inv X pins (σ6.set i none) (upd H' a (ExK cls a)) t7 → Q t7) →
          wpAny (model X.prog X.w) X.A (do bindName X.env n .none; unbindBehindTheSuite X.env n pos') (fun _ t7 => Q t7) X.xe t6 := fun {σ6 Q} S6 hq => by
        have J6 : L2.Inv X ((a, ob4) :: pins) σ6 H' t6 := ⟨xok, S6.os, S6.bare, S6.base, S6.loc, S6.cell, S6.free, S6.freeC, fun p hp => by
          have hp' : p ∈ ((a, ob4) :: (X.pn ++ pins)) ++ ([] : List (Addr × Obj)) := by
            rw [List.append_nil]
            rcases List.mem_append.mp hp with q | q
            · exact .tail _ (List.mem_append_left _ q)
            · rcases List.mem_cons.mp q with q | q
              · rw [q]; exact .head _
              · exact .tail _ (List.mem_append_right _ q)
          exact S6.pin p hp', S6.hok, S6.len⟩
        exact gone_ok J6 nd hi kn fun t7 J7 => hq t7 (Inv.keepE J7 hex zc4 dat4 new0 np_)
      cases f with
      | next =>
        obtain ⟨σ6, H6, S6, q1, q2⟩ := ended
        subst q1 q2
        exact fin_ S6 fun t7 J7 => ⟨_, _, J7, wish2 a na⟩
      | brk => obtain ⟨_, _, _, q⟩ := ended; exact q.elim
      | cont => obtain ⟨_, _, _, q⟩ := ended; exact q.elim
      | ret u => obtain ⟨_, _, _, _, _, q⟩ := ended; exact q.elim
    | false =>
      show wpAny _ X.A (handleBy (.ref a) X.env []) _ _ _
      refine wpAny_handleBy_nil ?_
      obtain ⟨k1, k2, k3, oe, vs, T, oT, ts', he, hz, hd, h1, hr⟩ := id fl3
      unfold PySem.passOn
      refine wpAny_bind (wpAny_field he hd h1 ?_)
      rw [if_neg (show ¬ ((Value.ref T == Value.none) = true) from by simp)]
      have onward : wpAny (model X.prog X.w) X.A (setFlight (.ref a) X.env.frame) (fun _ t4 => wpAny (model X.prog X.w) X.A (throw (.ref a) : Sem Flow) (SP X pins D) X.xe t4) X.xe { t1 with heap := h3 } := by
        rw [frm]
        refine HandSPX.setFlight_upZ fl3 fun h4 held4 up4 => wpAny_throw (tk _ _ ?_)
        exact ⟨a, B, sI, pins, σ', H', cls, d, rfl, J, nb, (up.trans up3).trans up4, .inr (.inr (by rw [stk]; exact held4)), na, os, ag, no rfl⟩
      first
        | exact wpAny_bind (wpAny_pure (wpAny_bind onward))
        | exact wpAny_bind onward
  · cases f with
    | next =>
      obtain ⟨σ', H', J', q⟩ := ended
      exact wpAny_execs_nil ⟨σ', H', J'.ofTry xok, q⟩
    | brk =>
      obtain ⟨σ', H', J', q⟩ := ended
      exact ⟨σ', H', J'.ofTry xok, q⟩
    | cont =>
      obtain ⟨σ', H', J', q⟩ := ended
      exact ⟨σ', H', J'.ofTry xok, q⟩
    | ret u =>
      obtain ⟨v, σ', H', J', r, q⟩ := ended
      exact ⟨v, σ', H', J'.ofTry xok, r, q⟩
end
/-! ### isinstance of what was caught -/
section
variable {X : Cx}
theorem kit_exn {pins : List (Addr × Obj)} {σ : L2.St} {H : Hp} {s : Shared} {a C : Addr} (J : L2.Inv X pins σ H s) (h : H a = some (ExK (.ref C) a)) (E : ExcC X.K C) : ∃ P : Heap → Prop, PySem.W.KitX X.K (.ref a) (.ref C) P ∧ P s.heap := by
  obtain ⟨⟨ob, e, z, fs, hd⟩, _⟩ := J.hok a _ h
  refine ⟨_, PySem.W.handS_kitx_exc (ox := ob) E.hg E.hk E.hs E.hd E.ha E.hn E.ht E.hm, ?_⟩
  obtain ⟨oc, od, oda, osl⟩ := ob
  obtain ⟨h1, h2⟩ := z
  dsimp only at h1 h2 hd
  subst h1 h2 hd
  exact ⟨e, rfl, rfl, trivial⟩
def rIse1 (K : PySem.W.Frag) : List V → Hp → VK → Prop := fun xs H Q => ∃ (a C : Addr) (c : V) (u : Value) (b : Bool), xs = [.ref a, c] ∧ ClsV c u ∧ H a = some (ExK (.ref C) a) ∧ ExcC K C ∧ PySem.W.kitOne K (.ref C) u = some b ∧ Q (.bl b) H
theorem call_ise1 : CallR X (.builtin "isinstance") (rIse1 X.K) := by
  intro pins s σ H xs us Q J r h
  obtain ⟨a, C, c, u, b, rfl, kc, ha, E, e, q⟩ := h
  obtain ⟨u1, u2, rfl, r1, r2⟩ := vals2 r
  cases (show u1 = Value.ref a from r1)
  have e2 := kc.eq r2
  subst e2
  obtain ⟨P, Z, p⟩ := kit_exn J ha E
  exact PySem.W.kia_one Z J.kIn p e (fun z => nomatch z) fun tk => ⟨.bl b, H, J.tok tk, rfl, q⟩
def rIseN (K : PySem.W.Frag) : List V → Hp → VK → Prop := fun xs H Q => ∃ (a C tp : Addr) (cs : List V) (us : List Value) (b : Bool), xs = [.ref a, .ref tp] ∧ H tp = some (.tup cs) ∧ Paired ClsV cs us ∧ H a = some (ExK (.ref C) a) ∧ ExcC K C ∧ PySem.W.kitAny K (.ref C) us = some b ∧ Q (.bl b) H
theorem call_iseN : CallR X (.builtin "isinstance") (rIseN X.K) := by
  intro pins s σ H xs us Q J r h
  obtain ⟨a, C, tp, cs, ws, b, rfl, hT, kc, ha, E, e, q⟩ := h
  obtain ⟨u1, u2, rfl, r1, r2⟩ := vals2 r
  cases (show u1 = Value.ref a from r1)
  cases (show u2 = Value.ref tp from r2)
  obtain ⟨P, Z, p⟩ := kit_exn J ha E
  obtain ⟨_, its, rv, o, h1, h2, n, h3⟩ := (show ObjOk X.prog X.w H s.heap tp (.tup cs) from J.hok tp _ hT)
  have e3 := ClsV.all kc rv
  subst e3
  obtain ⟨oc, od, dt, sl⟩ := o
  simp only at h2 h3
  subst h2 h3
  exact PySem.W.kia_tup Z J.kIn p h1 e (fun z => nomatch z) fun tk => ⟨.bl b, H, J.tok tk, rfl, q⟩
end
end PV

set_option maxRecDepth 100000
set_option maxHeartbeats 1000000
/-! ## 4. The operations by values -/
namespace PV
open L2 PyProof.Rows PySem.Spec PySem

/-- an exception of the language as one of the machine -/
def ExcR (mg : Str → Option Value) (x : Exc) (cls : Value) (d : Option Addr) : Prop :=
  ∃ C, mg (Str.ofString x.cls) = some (.ref C) ∧ cls = .ref C ∧ x.fld = none ∧ d = none
def Post {α : Type} (K : PySem.W.Frag) (mg : Str → Option Value) (F : Hp) (ι : List Addr) (r : R α) (P : Hp → List Addr → Store → Hp → α → Prop) (W : XK) : Prop :=
  match r with
  | .ok a S' => ∀ F' ι' H', Ext F F' ι ι' → SR K F' ι' S' H' → P F' ι' S' H' a
  | .exc x S' => ∀ cls d F' ι' H', Ext F F' ι ι' → SR K F' ι' S' H' → ExcR mg x cls d → W cls d H'
  | .fail => False
section
variable {α β : Type} {K : PySem.W.Frag} {mg : Str → Option Value} {F F1 : Hp} {ι ι1 : List Addr} {r : R α} {f : α → Store → R β} {P P' : Hp → List Addr → Store → Hp → α → Prop} {P2 : Hp → List Addr → Store → Hp → β → Prop} {W : XK}
theorem Post.ext (x : Ext F F1 ι ι1) (h : Post K mg F ι r P W) : Post K mg F1 ι1 r P W := by
  cases r with
  | ok a S => exact fun F' ι' H' y s => h F' ι' H' (x.trans y) s
  | exc e S => exact fun c d F' ι' H' y s q => h c d F' ι' H' (x.trans y) s q
  | fail => exact h
theorem Post.step (h : Post K mg F ι (r.bind f) P2 W) (g : ∀ F1 ι1 S1 H1 a, Ext F F1 ι ι1 → SR K F1 ι1 S1 H1 → Post K mg F1 ι1 (f a S1) P2 W → P F1 ι1 S1 H1 a) : Post K mg F ι r P W := by
  cases r with
  | ok a S => exact fun F' ι' H' y s => g F' ι' S H' a y s (Post.ext y h)
  | exc e S => exact h
  | fail => exact h
theorem Post.imp (h : Post K mg F ι r P W) (g : ∀ F1 ι1 S1 H1 a, Ext F F1 ι ι1 → SR K F1 ι1 S1 H1 → P F1 ι1 S1 H1 a → P' F1 ι1 S1 H1 a) : Post K mg F ι r P' W := by
  cases r with
  | ok a S => exact fun F' ι' H' y s => g F' ι' S H' a y s (h F' ι' H' y s)
  | exc e S => exact h
  | fail => exact h
end
/-- what is wanted of a value -/
def VP (K : PySem.W.Frag) (Q : VK) : Hp → List Addr → Store → Hp → RV → Prop := fun F ι _ H r => ∀ u, RVr K F ι u r → Q u H

/-! ### the best reading -/
section
variable (X : Cx)
def RE (e : Expr) : TE := fun σ H Q => ∃ t, PE X e t ∧ t σ H Q
def RTt (e : Expr) : TT := fun σ H Q => ∃ t, PT X e t ∧ t σ H Q
def RA (es : List Expr) : TA := fun σ H Q => ∃ t, PA X es t ∧ t σ H Q
def RG (e : Expr) : TG := fun v σ H Q => ∃ t, PG X e t ∧ t v σ H Q
def RI (tg e : Expr) : TI := fun σ H Q => ∃ t, PI X tg e t ∧ t σ H Q
def RS (st : Stmt) : TS := fun D σ H => ∃ t, PS X st t ∧ t D σ H
def RSs (st : List Stmt) : TS := fun D σ H => ∃ t, PSs X st t ∧ t D σ H
def BR (f : Value → Value → Sem Value) : R2 := fun x y H Q => ∃ r, OpR X f r ∧ r x y H Q
def BU (f : Value → Sem Value) : V → Hp → VK → Prop := fun x H Q => ∃ r, UnR X f r ∧ r x H Q
def BC (f : Value) : List V → Hp → VK → Prop := fun xs H Q => ∃ r, CallR X f r ∧ r xs H Q
def BM (id : String) : V → List V → Hp → VK → Prop := fun x xs H Q => ∃ r, MtR X id r ∧ r x xs H Q
def BX : R2 := fun x y H Q => ∃ r, IxR X r ∧ r x y H Q
def BL : V → Option Int → Option Int → Hp → VK → Prop := fun x lo hi H Q => ∃ r, SlR X r ∧ r x lo hi H Q
variable {X}
theorem re {e : Expr} : PE X e (RE X e) := ⟨fun pins s σ H Q I ⟨_, p, q⟩ => p.run pins s σ H Q I q⟩
theorem rt {e : Expr} : PT X e (RTt X e) := ⟨fun pins s σ H Q I ⟨_, p, q⟩ => p.run pins s σ H Q I q⟩
theorem ra {es : List Expr} : PA X es (RA X es) := ⟨fun pos pins s σ H Q I ⟨_, p, q⟩ => p.run pos pins s σ H Q I q⟩
theorem rg {e : Expr} : PG X e (RG X e) := ⟨fun pins s σ H v u Q I r ⟨_, p, q⟩ => p.run pins s σ H v u Q I r q⟩
theorem ri {tg e : Expr} : PI X tg e (RI X tg e) := ⟨fun pins s σ H Q I ⟨_, p, q⟩ => p.run pins s σ H Q I q⟩
theorem rs {st : Stmt} : PS X st (RS X st) := ⟨fun pins s σ H D I ⟨_, p, q⟩ => p.run pins s σ H D I q⟩
theorem rss {st : List Stmt} : PSs X st (RSs X st) := ⟨fun pins s σ H D I ⟨_, p, q⟩ => p.run pins s σ H D I q⟩
theorem br {f : Value → Value → Sem Value} : OpR X f (BR X f) := fun pins s σ H x y v u Q I rx ry ⟨_, p, q⟩ => p pins s σ H x y v u Q I rx ry q
theorem bu {f : Value → Sem Value} : UnR X f (BU X f) := fun pins s σ H x v Q I rx ⟨_, p, q⟩ => p pins s σ H x v Q I rx q
theorem bc {f : Value} : CallR X f (BC X f) := fun pins s σ H xs us Q I r ⟨_, p, q⟩ => p pins s σ H xs us Q I r q
theorem bm {id : String} : MtR X id (BM X id) := fun pins s σ H x xs v us Q I rx r ⟨_, p, q⟩ => p pins s σ H x xs v us Q I rx r q
theorem bx : IxR X (BX X) := fun e1 e2 pins s σ H x y v u Q I rx ry ⟨_, p, q⟩ => p e1 e2 pins s σ H x y v u Q I rx ry q
theorem bl : SlR X (BL X) := fun pins s σ H x v vl vu lo hi sl Q I rx hs pl pu ⟨_, p, q⟩ => p pins s σ H x v vl vu lo hi sl Q I rx hs pl pu q
end

section
variable {X : Cx} {F H : Hp} {ι : List Addr} {S : Store} {v u : V} {x y : RV} {Q : VK} {W : XK}
/-- a plain answer -/
theorem fin_t {z : T} {w : V} (sr : SR X.K F ι S H) (h : Post X.K X.mg F ι (ret z S) (VP X.K Q) W) (r : RT X.K F w z) : Q w H := h F ι H Ext.refl sr w r
/-- a new list -/
theorem fin_l {zs : List T} {ws : List V} (sr : SR X.K F ι S H) (h : Post X.K X.mg F ι (alloc (.lst zs) S) (VP X.K Q) W) (r : RTs X.K F ws zs) : ∀ p, H p = none → Q (.ref p) (upd H p (.lst ws)) := fun p n =>
  h F (ι ++ [p]) _ (sr.pushL n r).2 (sr.pushL n r).1 _ ⟨p, last_at sr, rfl⟩
/-- a new tuple -/
theorem fin_tup {zs : List T} {ws : List V} (sr : SR X.K F ι S H) (h : Post X.K X.mg F ι (ret (.tup zs) S) (VP X.K Q) W) (r : RTs X.K F ws zs) : ∀ p, H p = none → Q (.ref p) (upd H p (.tup ws)) := fun p n => by
  obtain ⟨s', x'⟩ := sr.moreF (u := .tup ws) n
  exact h _ ι _ x' s' _ (.tup (.inl (.inl upd_same)) (r.mono x'.f))
theorem RT.int_inv {i : Int} (h : RT X.K F v (.int i)) : v = .int i := by cases h; rfl
theorem RT.str_inv {i : Str} (h : RT X.K F v (.str i)) : v = .str i := by cases h; rfl
theorem RT.bl_inv {i : Bool} (h : RT X.K F v (.bl i)) : v = .bl i := by cases h; rfl
theorem RT.non_inv (h : RT X.K F v .non) : v = .non := by cases h; rfl
theorem ints_of : ∀ {xs : List T} {ns : List Int}, ints? xs = some ns → xs = ns.map T.int
  | [], ns, e => by cases e; rfl
  | x :: xs, ns, e => by
    cases x <;> simp only [ints?, Option.map_eq_some_iff, reduceCtorEq] at e
    obtain ⟨ms, e1, rfl⟩ := e
    rw [ints_of e1]; rfl
theorem strs_of : ∀ {xs : List T} {ns : List Str}, strs? xs = some ns → xs = ns.map T.str
  | [], ns, e => by cases e; rfl
  | x :: xs, ns, e => by
    cases x <;> simp only [strs?, Option.map_eq_some_iff, reduceCtorEq] at e
    obtain ⟨ms, e1, rfl⟩ := e
    rw [strs_of e1]; rfl
theorem bls_of : ∀ {xs : List T} {ns : List Bool}, bls? xs = some ns → xs = ns.map T.bl
  | [], ns, e => by cases e; rfl
  | x :: xs, ns, e => by
    cases x <;> simp only [bls?, Option.map_eq_some_iff, reduceCtorEq] at e
    obtain ⟨ms, e1, rfl⟩ := e
    rw [bls_of e1]; rfl
theorem RTs.ints : ∀ {vs : List V} {ns : List Int}, RTs X.K F vs (ns.map T.int) → vs = ns.map V.int
  | [], [], _ => rfl
  | _ :: _, [], h => by cases h
  | [], _ :: _, h => by cases h
  | v :: vs, n :: ns, h => by
    cases h with
    | cons h r => rw [h.int_inv, RTs.ints r]; rfl
theorem RTs.strs : ∀ {vs : List V} {ns : List Str}, RTs X.K F vs (ns.map T.str) → vs = ns.map V.str
  | [], [], _ => rfl
  | _ :: _, [], h => by cases h
  | [], _ :: _, h => by cases h
  | v :: vs, n :: ns, h => by
    cases h with
    | cons h r => rw [h.str_inv, RTs.strs r]; rfl
theorem RTs.bls : ∀ {vs : List V} {ns : List Bool}, RTs X.K F vs (ns.map T.bl) → vs = ns.map V.bl
  | [], [], _ => rfl
  | _ :: _, [], h => by cases h
  | [], _ :: _, h => by cases h
  | v :: vs, n :: ns, h => by
    cases h with
    | cons h r => rw [h.bl_inv, RTs.bls r]; rfl
theorem RTs.of_ints : ∀ (ns : List Int), RTs X.K F (ns.map V.int) (ns.map T.int)
  | [] => .nil
  | n :: ns => .cons (.int n) (RTs.of_ints ns)
theorem RTs.of_strs : ∀ (ns : List Str), RTs X.K F (ns.map V.str) (ns.map T.str)
  | [] => .nil
  | n :: ns => .cons (.str n) (RTs.of_strs ns)

/-! #### arithmetic -/
theorem mul_cond {i j : Int} (h : mulOk i j = true) : CMulW i j := by
  obtain ⟨h1, h2⟩ := of_decide_eq_true h
  exact wide_mul h1 h2 (by decide) (by decide) (by decide)
/-- a tuple is fixed already -/
theorem tup_now (sr : SR X.K F ι S H) (rx : RVr X.K F ι v x) {xs : List T} (e : vw S x = some (.tup xs)) : RT X.K F v (.tup xs) := by
  cases x with
  | t z => cases e; exact rx
  | o k =>
    obtain ⟨a', ea, rfl⟩ := rx
    obtain ⟨so, es⟩ := sr.lt ea
    have ob := sr.ob k a' so ea es
    simp only [vw, es, Option.map_some, Option.some.injEq] at e
    cases so with
    | frz z => simp only [SO.tree] at e; subst e; exact ob
    | lst z => simp only [SO.tree, reduceCtorEq] at e
    | dic z => simp only [SO.tree, reduceCtorEq] at e
theorem add_ok (sr : SR X.K F ι S H) (rx : RVr X.K F ι v x) (ry : RVr X.K F ι u y) (h : Post X.K X.mg F ι (s2 .add x y S) (VP X.K Q) W) : BR X (binaryOp .Add) v u H Q := by
  simp only [s2] at h
  split at h
  · rename_i i j e1 e2
    have a := sr.now rx e1
    have b := sr.now ry e2
    exact ⟨_, op_add, i, j, a, b, fin_t sr h (.int _)⟩
  · rename_i i j e1 e2
    have a := sr.now rx e1
    have b := sr.now ry e2
    split at h
    · rename_i hz
      exact ⟨_, op_add_str, i, j, a, b, hz, fin_t sr h (.str _)⟩
    · exact h.elim
  · rename_i i j e1 e2
    obtain ⟨a, vs, rfl, ha, ra⟩ := sr.now rx e1
    obtain ⟨b, ws, rfl, hb, rb⟩ := sr.now ry e2
    split at h
    · rename_i hz
      refine ⟨_, op_cat, a, b, vs, ws, rfl, rfl, ha, hb, ?_, fin_l sr h (ra.append rb)⟩
      rw [ra.length, rb.length]; exact hz
    · exact h.elim
  · rename_i i j e1 e2
    obtain ⟨a, vs, rfl, ha, ra⟩ := sr.now rx e1
    obtain ⟨b, ws, rfl, hb, rb⟩ := sr.now ry e2
    split at h
    · rename_i hz
      have t1 := tup_now sr rx e1
      have t2 := tup_now sr ry e2
      refine ⟨_, op_catA, a, b, vs, ws, rfl, rfl, ha, hb, ?_, fun e => ?_, fun _ e => ?_, fun _ _ => fin_tup sr h (ra.append rb)⟩
      · rw [ra.length, rb.length]; exact hz
      · subst e; cases ra
        exact fin_t sr h t2
      · subst e; cases rb
        rw [List.append_nil] at h
        exact fin_t sr h t1
    · exact h.elim
  · exact h.elim
theorem sub_ok (sr : SR X.K F ι S H) (rx : RVr X.K F ι v x) (ry : RVr X.K F ι u y) (h : Post X.K X.mg F ι (s2 .sub x y S) (VP X.K Q) W) : BR X (binaryOp .Sub) v u H Q := by
  simp only [s2] at h
  split at h
  · exact ⟨_, op_sub, _, _, RT.int_inv rx, RT.int_inv ry, fin_t sr h (.int _)⟩
  · exact h.elim
theorem mul_ok (sr : SR X.K F ι S H) (rx : RVr X.K F ι v x) (ry : RVr X.K F ι u y) (h : Post X.K X.mg F ι (s2 .mul x y S) (VP X.K Q) W) : BR X (binaryOp .Mult) v u H Q := by
  simp only [s2] at h
  split at h
  · rename_i i j e1 e2
    have a := sr.now rx e1
    have b := sr.now ry e2
    split at h
    · rename_i hm
      exact ⟨_, op_mulW, _, _, a, b, mul_cond hm, fin_t sr h (.int _)⟩
    · exact h.elim
  · rename_i xs k e1 e2
    obtain ⟨a, vs, rfl, ha, ra⟩ := sr.now rx e1
    have b := sr.now ry e2
    split at h
    · rename_i hm
      refine ⟨_, op_rep, a, k, vs, rfl, b, ha, hm.1, hm.2.1, ?_, fin_l sr h (ra.rep _)⟩
      rw [ra.length]; exact hm.2.2
    · exact h.elim
  · exact h.elim
theorem fdiv_ok (sr : SR X.K F ι S H) (rx : RVr X.K F ι v x) (ry : RVr X.K F ι u y) (h : Post X.K X.mg F ι (s2 .fdiv x y S) (VP X.K Q) W) : BR X (binaryOp .FloorDiv) v u H Q := by
  simp only [s2] at h
  split at h
  · split at h
    · rename_i hc
      exact ⟨_, op_fdivW, _, _, RT.int_inv rx, RT.int_inv ry, wide_div (b := 250) hc.1 (by omega) (by decide) (by decide), fin_t sr h (.int _)⟩
    · exact h.elim
  · exact h.elim
theorem mod_ok (sr : SR X.K F ι S H) (rx : RVr X.K F ι v x) (ry : RVr X.K F ι u y) (h : Post X.K X.mg F ι (s2 .mod x y S) (VP X.K Q) W) : BR X (binaryOp .Mod) v u H Q := by
  simp only [s2] at h
  split at h
  · split at h
    · rename_i hc
      exact ⟨_, op_mod, _, _, RT.int_inv rx, RT.int_inv ry, hc, fin_t sr h (.int _)⟩
    · exact h.elim
  · exact h.elim
theorem pow_ok (sr : SR X.K F ι S H) (rx : RVr X.K F ι v x) (ry : RVr X.K F ι u y) (h : Post X.K X.mg F ι (s2 .pow x y S) (VP X.K Q) W) : BR X (binaryOp .Pow) v u H Q := by
  simp only [s2] at h
  split at h
  · split at h
    · rename_i hc
      exact ⟨_, op_pow, _, _, RT.int_inv rx, RT.int_inv ry, hc, fin_t sr h (.int _)⟩
    · exact h.elim
  · exact h.elim
theorem neg_ok (sr : SR X.K F ι S H) (rx : RVr X.K F ι v x) (h : Post X.K X.mg F ι (s1 .neg x S) (VP X.K Q) W) : BU X (unaryOp .USub) v H Q := by
  simp only [s1] at h
  split at h
  · exact ⟨_, un_neg, _, RT.int_inv rx, fin_t sr h (.int _)⟩
  · exact h.elim

/-! #### comparisons -/
mutual
def toD : T → PyData
  | .non => .none
  | .bl b => .bool b
  | .int i => .int i
  | .str s => .str s
  | .lst xs => .list (toDs xs)
  | .tup xs => .tuple (toDs xs)
  | .dic _ => .none
  | .rol _ => .none
  | .exn _ => .none
def toDs : List T → List PyData
  | [] => []
  | x :: xs => toD x :: toDs xs
end
mutual
theorem dp_of (sub : Same F H) : ∀ {v : V} {x : T} (n : Nat), RT X.K F v x → low n x = true → Dp X.K H v (toD x)
  | _, _, _, .non, _ => .non
  | _, _, _, .bl b, _ => .bl b
  | _, _, _, .int i, _ => .int i
  | _, _, _, .str s, _ => .str s
  | _, _, n, .lst h r, e => .lst (SqL.of (sub _ _ h)) (dp_ofs sub n r (by simpa only [low] using e))
  | _, _, n, .tup h r, e => .tup (sameT sub h) (dp_ofs sub n r (by simpa only [low] using e))
  | _, _, n, .rol h r, e => by simp only [low, Bool.false_eq_true] at e
  | _, _, n, .exn h hn, e => by simp only [low, Bool.false_eq_true] at e
  | _, _, n, .dic h r, e => by simp only [low, Bool.false_eq_true] at e
theorem dp_ofs (sub : Same F H) : ∀ {vs : List V} {xs : List T} (n : Nat), RTs X.K F vs xs → lows n xs = true → DpAll X.K H vs (toDs xs)
  | _, _, 0, _, e => by simp only [lows, Bool.false_eq_true] at e
  | _, _, n + 1, .nil, _ => .nil
  | _, _, n + 1, .cons h r, e => by
    simp only [lows, Bool.and_eq_true] at e
    exact .cons (dp_of sub n h e.1) (dp_ofs sub (n + 1) r e.2)
end
mutual
theorem eqv_of : ∀ (a b : T) (n m : Nat), low n a = true → low m b = true → PyData.eqv (toD a) (toD b) = teq a b
  | .lst xs, .lst ys, n, m, h1, h2 => by
    simp only [low] at h1 h2
    simp only [toD, PyData.eqv, teq]
    exact eqv_ofs xs ys n m h1 h2
  | .tup xs, .tup ys, n, m, h1, h2 => by
    simp only [low] at h1 h2
    simp only [toD, PyData.eqv, teq]
    exact eqv_ofs xs ys n m h1 h2
  | .dic _, _, n, m, h1, h2 => by simp [low] at h1
  | .rol _, _, n, m, h1, h2 => by simp [low] at h1
  | .exn _, _, n, m, h1, h2 => by simp [low] at h1
  | .non, b, n, m, h1, h2 => by cases b <;> simp [toD, PyData.eqv, teq, low] at * 
  | .bl _, b, n, m, h1, h2 => by cases b <;> simp [toD, PyData.eqv, teq, low] at * 
  | .int _, b, n, m, h1, h2 => by cases b <;> simp [toD, PyData.eqv, teq, low] at * 
  | .str _, b, n, m, h1, h2 => by cases b <;> simp [toD, PyData.eqv, teq, low] at * 
  | .lst _, .non, n, m, h1, h2 => by simp [toD, PyData.eqv, teq]
  | .lst _, .bl _, n, m, h1, h2 => by simp [toD, PyData.eqv, teq]
  | .lst _, .int _, n, m, h1, h2 => by simp [toD, PyData.eqv, teq]
  | .lst _, .str _, n, m, h1, h2 => by simp [toD, PyData.eqv, teq]
  | .lst _, .tup _, n, m, h1, h2 => by simp [toD, PyData.eqv, teq]
  | .lst _, .dic _, n, m, h1, h2 => by simp [low] at h2
  | .lst _, .rol _, n, m, h1, h2 => by simp [low] at h2
  | .lst _, .exn _, n, m, h1, h2 => by simp [low] at h2
  | .tup _, .non, n, m, h1, h2 => by simp [toD, PyData.eqv, teq]
  | .tup _, .bl _, n, m, h1, h2 => by simp [toD, PyData.eqv, teq]
  | .tup _, .int _, n, m, h1, h2 => by simp [toD, PyData.eqv, teq]
  | .tup _, .str _, n, m, h1, h2 => by simp [toD, PyData.eqv, teq]
  | .tup _, .lst _, n, m, h1, h2 => by simp [toD, PyData.eqv, teq]
  | .tup _, .dic _, n, m, h1, h2 => by simp [low] at h2
  | .tup _, .rol _, n, m, h1, h2 => by simp [low] at h2
  | .tup _, .exn _, n, m, h1, h2 => by simp [low] at h2
theorem eqv_ofs : ∀ (a b : List T) (n m : Nat), lows n a = true → lows m b = true → PyData.eqvAll (toDs a) (toDs b) = teqs a b
  | [], [], n, m, h1, h2 => by simp [toDs, PyData.eqvAll, teqs]
  | [], _ :: _, n, m, h1, h2 => by simp [toDs, PyData.eqvAll, teqs]
  | _ :: _, [], n, m, h1, h2 => by simp [toDs, PyData.eqvAll, teqs]
  | x :: xs, y :: ys, 0, m, h1, h2 => by simp [lows] at h1
  | x :: xs, y :: ys, n + 1, 0, h1, h2 => by simp [lows] at h2
  | x :: xs, y :: ys, n + 1, m + 1, h1, h2 => by
    simp only [lows, Bool.and_eq_true] at h1 h2
    simp only [toDs, PyData.eqvAll, teqs]
    rw [eqv_of x y n m h1.1 h2.1, eqv_ofs xs ys (n + 1) (m + 1) h1.2 h2.2]
end
mutual
theorem can_of : ∀ (a : T) (n : Nat), low n a = true → (toD a).canLay0 = true ∧ (toD a).depth ≤ n + 1
  | .non, n, _ => by simp [toD, PyData.canLay0, PyData.depth]
  | .bl _, n, _ => by simp [toD, PyData.canLay0, PyData.depth]
  | .int _, n, _ => by simp [toD, PyData.canLay0, PyData.depth]
  | .str _, n, h => by
    simp only [low] at h
    simp [toD, PyData.canLay0, PyData.depth, h]
  | .lst xs, n, h => by
    simp only [low] at h
    have := can_ofs xs n h
    simp only [toD, PyData.canLay0, PyData.depth]
    exact ⟨this.1, by omega⟩
  | .tup xs, n, h => by
    simp only [low] at h
    have := can_ofs xs n h
    simp only [toD, PyData.canLay0, PyData.depth]
    exact ⟨this.1, by omega⟩
  | .dic _, n, h => by simp [low] at h
  | .rol _, n, h => by simp [low] at h
  | .exn _, n, h => by simp [low] at h
theorem can_ofs : ∀ (a : List T) (n : Nat), lows n a = true → PyData.canLayAll0 (toDs a) = true ∧ PyData.depthAll (toDs a) ≤ n
  | [], n, _ => by simp [toDs, PyData.canLayAll0, PyData.depthAll]
  | x :: xs, 0, h => by simp [lows] at h
  | x :: xs, n + 1, h => by
    simp only [lows, Bool.and_eq_true] at h
    have h1 := can_of x n h.1
    have h2 := can_ofs xs (n + 1) h.2
    simp only [toDs, PyData.canLayAll0, PyData.depthAll, Bool.and_eq_true]
    exact ⟨⟨h1.1, h2.1⟩, by omega⟩
end
theorem shaped_of {a : T} (h : low 60 a = true) : SeqAt.shaped (toD a) = true := by
  have := can_of a 60 h
  unfold SeqAt.shaped
  rw [this.1, decide_eq_true (by omega)]
  rfl
end
end PV

set_option maxRecDepth 100000
set_option maxHeartbeats 1000000
namespace PV
open L2 PyProof.Rows PySem.Spec PySem
section
variable {X : Cx} {F H : Hp} {ι : List Addr} {S : Store} {v u : V} {x y : RV} {Q : VK} {W : XK}
/-! #### == and != -/
theorem scal_of {a b : T} {v u : V} (ra : RN X.K F H v a) (rb : RN X.K F H u b) (h : scalT a b = true) : scal v u = true ∧ decide (v = u) = teq a b := by
  cases a <;> cases b <;> simp only [scalT, T.flat, Bool.false_eq_true, reduceCtorEq] at h <;> simp only [RN] at ra rb <;> subst ra <;> subst rb <;> refine ⟨rfl, ?_⟩ <;> simp [teq] <;> exact (Bool.beq_eq_decide_eq _ _).symm
theorem dp_now (sr : SR X.K F ι S H) (rx : RVr X.K F ι v x) {a : T} (e : vw S x = some a) (h : low 60 a = true) : Dp X.K H v (toD a) := by
  have r := sr.now rx e
  cases a with
  | non => cases r; exact .non
  | bl b => cases r; exact .bl b
  | int i => cases r; exact .int i
  | str s => cases r; exact .str s
  | lst xs =>
    obtain ⟨p, vs, rfl, hp, q⟩ := r
    exact .lst (SqL.of hp) (dp_ofs sr.sub 60 q (by simpa only [low] using h))
  | tup xs =>
    obtain ⟨p, vs, rfl, hp, q⟩ := r
    exact .tup hp (dp_ofs sr.sub 60 q (by simpa only [low] using h))
  | dic _ => simp [low] at h
  | rol _ => simp [low] at h
  | exn _ => simp [low] at h
theorem eqT_cases {a b : T} {k : Bool} (h : eqT a b = some k) : ((scalT a b || (low 60 a && low 60 b)) = true ∧ k = teq a b) ∨ eqD a b = some k := by
  unfold eqT at h
  split at h
  · rename_i hc
    exact .inl ⟨hc, (Option.some.inj h).symm⟩
  · exact .inr h
theorem eqD_cases {a b : T} {k : Bool} (h : eqD a b = some k) : ∃ ks ls, a = .dic ks ∧ b = .dic ls ∧ k = true ∧ sameD ks ls = true := by
  unfold eqD at h
  split at h
  · rename_i ks ls
    split at h
    · rename_i hs
      exact ⟨ks, ls, rfl, rfl, (Option.some.inj h).symm, hs⟩
    · cases h
  · cases h
theorem flatEq_ok {x y : T} {v w : V} (h : flatEq x y = true) (rx : RT X.K F v x) (ry : RT X.K F w y) : w = v ∧ flatB v = true := by
  cases rx <;> cases ry <;> simp [flatEq] at h <;> (try subst h) <;> exact ⟨rfl, rfl⟩
theorem sameD_ok {ws ws' : List (Key × V)} {ks ls : List (Key × T)} (r : RTk X.K F ws ks) (r' : RTk X.K F ws' ls) (h : sameD ks ls = true) :
    ws.length = ws'.length ∧ ∀ p ∈ ws, valV ws' p.1 = some p.2 ∧ flatB p.2 = true := by
  unfold sameD at h
  rw [Bool.and_eq_true, decide_eq_true_eq] at h
  refine ⟨by rw [r.length, r'.length, h.1], ?_⟩
  have key : ∀ {ws : List (Key × V)} {ks : List (Key × T)}, RTk X.K F ws ks → (ks.all fun kv => match dget ls kv.1 with | some y => flatEq kv.2 y | none => false) = true → ∀ p ∈ ws, valV ws' p.1 = some p.2 ∧ flatB p.2 = true := by
    intro ws ks r
    induction ws generalizing ks with
    | nil => intro _ p hp; cases hp
    | cons kw ws ih =>
      cases r with
      | @cons k v _ x xs hv r =>
        intro hall p hp
        rw [List.all_cons, Bool.and_eq_true] at hall
        rcases List.mem_cons.mp hp with e | hp
        · subst e
          have g := r'.get k
          have h1 := hall.1
          cases eg : dget ls k with
          | none => simp only [eg] at h1; cases h1
          | some y =>
            simp only [eg] at h1 g
            obtain ⟨w, e1, rw'⟩ := g
            obtain ⟨e2, e3⟩ := flatEq_ok h1 hv rw'
            exact ⟨by rw [e1, e2], e3⟩
        · exact ih r hall.2 p hp
  exact key r h.2
theorem eq_ok (hu : X.A.units + 64 < cLine) (sr : SR X.K F ι S H) (rx : RVr X.K F ι v x) (ry : RVr X.K F ι u y) (h : Post X.K X.mg F ι (s2 .eq x y S) (VP X.K Q) W) : BR X (compareOp .Eq) v u H Q := by
  simp only [s2] at h
  split at h
  · rename_i a b e1 e2
    split at h
    · rename_i k hk
      rcases eqT_cases hk with ⟨hc, rfl⟩ | hd
      · have q := fin_t sr h (w := .bl (teq a b)) (.bl _)
        by_cases hs : scalT a b = true
        · obtain ⟨h1, h2⟩ := scal_of (sr.now rx e1) (sr.now ry e2) hs
          exact ⟨_, op_eq, h1, by rw [h2]; exact q⟩
        · have hl : low 60 a = true ∧ low 60 b = true := by
            rw [Bool.or_eq_true, Bool.and_eq_true] at hc
            exact hc.resolve_left hs
          refine ⟨_, op_eqD hu, _, _, dp_now sr rx e1 hl.1, dp_now sr ry e2 hl.2, shaped_of hl.1, shaped_of hl.2, ?_⟩
          rw [eqv_of a b 60 60 hl.1 hl.2]
          exact q
      · obtain ⟨ks, ls, rfl, rfl, rfl, hS⟩ := eqD_cases hd
        obtain ⟨p, ws, rfl, hp, r⟩ := sr.now rx e1
        obtain ⟨p', ws', rfl, hp', r'⟩ := sr.now ry e2
        exact ⟨_, op_eq_dictA (by omega), p, p', ws, ws', rfl, rfl, hp, hp', (sameD_ok r r' hS).1, (sameD_ok r r' hS).2, fin_t sr h (.bl _)⟩
    · exact h.elim
  · exact h.elim
theorem ne_ok (hu : X.A.units + 64 < cLine) (sr : SR X.K F ι S H) (rx : RVr X.K F ι v x) (ry : RVr X.K F ι u y) (h : Post X.K X.mg F ι (s2 .ne x y S) (VP X.K Q) W) : BR X (compareOp .NotEq) v u H Q := by
  simp only [s2] at h
  split at h
  · rename_i a b e1 e2
    split at h
    · rename_i k hk
      rcases eqT_cases hk with ⟨hc, rfl⟩ | hd
      · have q := fin_t sr h (w := .bl (!teq a b)) (.bl _)
        by_cases hs : scalT a b = true
        · obtain ⟨h1, h2⟩ := scal_of (sr.now rx e1) (sr.now ry e2) hs
          exact ⟨_, op_ne, h1, by rw [h2]; exact q⟩
        · have hl : low 60 a = true ∧ low 60 b = true := by
            rw [Bool.or_eq_true, Bool.and_eq_true] at hc
            exact hc.resolve_left hs
          refine ⟨_, op_neD hu, _, _, dp_now sr rx e1 hl.1, dp_now sr ry e2 hl.2, shaped_of hl.1, shaped_of hl.2, ?_⟩
          rw [eqv_of a b 60 60 hl.1 hl.2]
          exact q
      · obtain ⟨ks, ls, rfl, rfl, rfl, hS⟩ := eqD_cases hd
        obtain ⟨p, ws, rfl, hp, r⟩ := sr.now rx e1
        obtain ⟨p', ws', rfl, hp', r'⟩ := sr.now ry e2
        exact ⟨_, op_ne_dictA (by omega), p, p', ws, ws', rfl, rfl, hp, hp', (sameD_ok r r' hS).1, (sameD_ok r r' hS).2, fin_t sr h (.bl _)⟩
    · exact h.elim
  · exact h.elim
theorem lt_ok (sr : SR X.K F ι S H) (rx : RVr X.K F ι v x) (ry : RVr X.K F ι u y) (h : Post X.K X.mg F ι (s2 .lt x y S) (VP X.K Q) W) : BR X (compareOp .Lt) v u H Q := by
  simp only [s2] at h
  split at h
  · exact ⟨_, op_lt, _, _, RT.int_inv rx, RT.int_inv ry, fin_t sr h (.bl _)⟩
  · exact ⟨_, op_lt_str, _, _, RT.str_inv rx, RT.str_inv ry, fin_t sr h (.bl _)⟩
  · exact h.elim
theorem le_ok (sr : SR X.K F ι S H) (rx : RVr X.K F ι v x) (ry : RVr X.K F ι u y) (h : Post X.K X.mg F ι (s2 .le x y S) (VP X.K Q) W) : BR X (compareOp .LtE) v u H Q := by
  simp only [s2] at h
  split at h
  · exact ⟨_, op_le, _, _, RT.int_inv rx, RT.int_inv ry, fin_t sr h (.bl _)⟩
  · exact h.elim
theorem gt_ok (sr : SR X.K F ι S H) (rx : RVr X.K F ι v x) (ry : RVr X.K F ι u y) (h : Post X.K X.mg F ι (s2 .gt x y S) (VP X.K Q) W) : BR X (compareOp .Gt) v u H Q := by
  simp only [s2] at h
  split at h
  · exact ⟨_, op_gt, _, _, RT.int_inv rx, RT.int_inv ry, fin_t sr h (.bl _)⟩
  · exact h.elim
theorem ge_ok (sr : SR X.K F ι S H) (rx : RVr X.K F ι v x) (ry : RVr X.K F ι u y) (h : Post X.K X.mg F ι (s2 .ge x y S) (VP X.K Q) W) : BR X (compareOp .GtE) v u H Q := by
  simp only [s2] at h
  split at h
  · exact ⟨_, op_ge, _, _, RT.int_inv rx, RT.int_inv ry, fin_t sr h (.bl _)⟩
  · exact h.elim
theorem not_non {z : T} (h : RT X.K F v z) (hz : z ≠ .non) : decide (v = V.non) = false := by
  cases h with
  | non => exact absurd rfl hz
  | bl b => rfl
  | int i => rfl
  | str s => rfl
  | lst h r => rfl
  | rol h r => rfl
  | exn h hn => rfl
  | tup h r => rfl
  | dic h r => rfl
theorem isn_ok (sr : SR X.K F ι S H) (rx : RVr X.K F ι v x) (ry : RVr X.K F ι u y) (h : Post X.K X.mg F ι (s2 .isn x y S) (VP X.K Q) W) : BR X (compareOp .Is) v u H Q := by
  simp only [s2] at h
  split at h
  · refine ⟨_, op_isN, RT.non_inv ry, ?_⟩
    rw [RT.non_inv rx]
    exact fin_t sr h (.bl _)
  · rename_i hz
    refine ⟨_, op_isN, RT.non_inv ry, ?_⟩
    rw [not_non rx (by simpa using hz)]
    exact fin_t sr h (.bl _)
  · refine ⟨_, op_isN, RT.non_inv ry, ?_⟩
    obtain ⟨a, _, rfl⟩ := rx
    exact fin_t sr h (.bl _)
  · exact h.elim
theorem notn_ok (sr : SR X.K F ι S H) (rx : RVr X.K F ι v x) (ry : RVr X.K F ι u y) (h : Post X.K X.mg F ι (s2 .notn x y S) (VP X.K Q) W) : BR X (compareOp .IsNot) v u H Q := by
  simp only [s2] at h
  split at h
  · refine ⟨_, op_notN, RT.non_inv ry, ?_⟩
    rw [RT.non_inv rx]
    exact fin_t sr h (.bl _)
  · rename_i hz
    refine ⟨_, op_notN, RT.non_inv ry, ?_⟩
    rw [not_non rx (by simpa using hz)]
    exact fin_t sr h (.bl _)
  · refine ⟨_, op_notN, RT.non_inv ry, ?_⟩
    obtain ⟨a, _, rfl⟩ := rx
    exact fin_t sr h (.bl _)
  · exact h.elim

/-! #### in -/
theorem flat_of {z : T} (h : RT X.K F v z) (hz : z.flat = true) : flatV v = true := by
  cases h <;> first | rfl | (simp [T.flat] at hz)
theorem eqV_of {a b : T} {v u : V} (ra : RT X.K F v a) (rb : RT X.K F u b) (ha : a.flat = true) (hb : b.flat = true) : eqV v u = teq a b := by
  cases ra <;> cases rb <;> first | rfl | (simp [T.flat] at ha) | (simp [T.flat] at hb) | simp [eqV, teq]
theorem inV_of {z : T} (h : RT X.K F v z) (hz : z.flat = true) : ∀ {vs : List V} {xs : List T}, RTs X.K F vs xs → xs.all T.flat = true → vs.all flatV = true ∧ inV v vs = inT z xs
  | _, _, .nil, _ => ⟨rfl, rfl⟩
  | _, _, .cons h1 r, e => by
    rw [List.all_cons, Bool.and_eq_true] at e
    obtain ⟨i1, i2⟩ := inV_of h hz r e.2
    refine ⟨by rw [List.all_cons, flat_of h1 e.1, i1]; rfl, ?_⟩
    unfold inV inT at *
    rw [List.any_cons, List.any_cons, i2, eqV_of h1 h e.1 hz]
theorem key_of_t {z : T} {k : Key} (h : RT X.K F v z) (e : keyOf z = some k) : v = kV k := by
  cases h <;> simp only [keyOf, Option.some.injEq, reduceCtorEq] at e <;> subst e <;> rfl
theorem in_ok (hu : X.A.units + 1 < cLine) (sr : SR X.K F ι S H) (rx : RVr X.K F ι v x) (ry : RVr X.K F ι u y) (h : Post X.K X.mg F ι (s2 .isin x y S) (VP X.K Q) W) : BR X (compareOp .In) v u H Q := by
  simp only [s2] at h
  split at h
  · rename_i b e
    have q := fin_t sr h (w := .bl b) (.bl _)
    unfold inC at e
    split at e
    · rename_i s ev
      have rs := sr.now ry ev
      split at e
      · cases e
        exact ⟨_, op_in_str, _, _, RT.str_inv rx, rs, q⟩
      · cases e
    · rename_i xs ev
      obtain ⟨p, vs, rfl, hp, r⟩ := sr.now ry ev
      split at e
      · split at e
        · rename_i hf
          cases e
          rw [Bool.and_eq_true] at hf
          obtain ⟨f1, f2⟩ := inV_of rx hf.1 r hf.2
          exact ⟨_, op_in_seq, p, vs, rfl, .inl (SqL.of hp), flat_of rx hf.1, f1, by rw [if_neg Bool.false_ne_true, f2]; exact q⟩
        · cases e
      · cases e
    · rename_i xs ev
      obtain ⟨p, vs, rfl, hp, r⟩ := sr.now ry ev
      split at e
      · split at e
        · rename_i hf
          cases e
          rw [Bool.and_eq_true] at hf
          obtain ⟨f1, f2⟩ := inV_of rx hf.1 r hf.2
          exact ⟨_, op_in_seq, p, vs, rfl, .inr hp, flat_of rx hf.1, f1, by rw [if_neg Bool.false_ne_true, f2]; exact q⟩
        · cases e
      · cases e
    · rename_i kvs ev
      obtain ⟨p, ws, rfl, hp, r⟩ := sr.now ry ev
      split at e
      · rename_i z
        obtain ⟨k, ek, rfl⟩ := Option.map_eq_some_iff.mp e
        refine ⟨fun y x H Q => ∃ a o, x = .ref a ∧ DGet H a y o ∧ Q (.bl o.isSome) H, ?_, p, valV ws k, rfl, ?_, ?_⟩
        · intro pins s σ H x y v u Q I rx ry h
          obtain ⟨a, o, rfl, g, q⟩ := h
          cases ry
          exact d_in hu I g rx fun s' I' => ⟨.bl _, H, I', rfl, q⟩
        · rw [key_of_t rx ek]; exact DGet.k hp
        · have g := r.get k
          cases eg : dget kvs k with
          | none => rw [eg] at g q; rw [g]; exact q
          | some z => rw [eg] at g q; obtain ⟨w, e1, _⟩ := g; rw [e1]; exact q
      · cases e
    · cases e
  · exact h.elim
theorem notin_ok (hu : X.A.units + 1 < cLine) (sr : SR X.K F ι S H) (rx : RVr X.K F ι v x) (ry : RVr X.K F ι u y) (h : Post X.K X.mg F ι (s2 .notin x y S) (VP X.K Q) W) : BR X (compareOp .NotIn) v u H Q := by
  simp only [s2] at h
  split at h
  · rename_i b e
    have q := fin_t sr h (w := .bl (!b)) (.bl _)
    unfold inC at e
    split at e
    · rename_i s ev
      have rs := sr.now ry ev
      split at e
      · cases e
        exact ⟨_, L2.op_notIn_str, _, _, RT.str_inv rx, rs, q⟩
      · cases e
    · rename_i xs ev
      obtain ⟨p, vs, rfl, hp, r⟩ := sr.now ry ev
      split at e
      · split at e
        · rename_i hf
          cases e
          rw [Bool.and_eq_true] at hf
          obtain ⟨f1, f2⟩ := inV_of rx hf.1 r hf.2
          exact ⟨_, op_notIn_seq, p, vs, rfl, .inl (SqL.of hp), flat_of rx hf.1, f1, by rw [if_pos rfl, f2]; exact q⟩
        · cases e
      · cases e
    · rename_i xs ev
      obtain ⟨p, vs, rfl, hp, r⟩ := sr.now ry ev
      split at e
      · split at e
        · rename_i hf
          cases e
          rw [Bool.and_eq_true] at hf
          obtain ⟨f1, f2⟩ := inV_of rx hf.1 r hf.2
          exact ⟨_, op_notIn_seq, p, vs, rfl, .inr hp, flat_of rx hf.1, f1, by rw [if_pos rfl, f2]; exact q⟩
        · cases e
      · cases e
    · rename_i kvs ev
      obtain ⟨p, ws, rfl, hp, r⟩ := sr.now ry ev
      split at e
      · rename_i z
        obtain ⟨k, ek, rfl⟩ := Option.map_eq_some_iff.mp e
        refine ⟨fun y x H Q => ∃ a o, x = .ref a ∧ DGet H a y o ∧ Q (.bl (!o.isSome)) H, ?_, p, valV ws k, rfl, ?_, ?_⟩
        · intro pins s σ H x y v u Q I rx ry h
          obtain ⟨a, o, rfl, g, q⟩ := h
          cases ry
          exact d_notIn hu I g rx fun s' I' => ⟨.bl _, H, I', rfl, q⟩
        · rw [key_of_t rx ek]; exact DGet.k hp
        · have g := r.get k
          cases eg : dget kvs k with
          | none => rw [eg] at g q; rw [g]; exact q
          | some z => rw [eg] at g q; obtain ⟨w, e1, _⟩ := g; rw [e1]; exact q
      · cases e
    · cases e
  · exact h.elim

/-! #### calls of built-ins -/
theorem len_ok (sr : SR X.K F ι S H) (rx : RVr X.K F ι v x) (h : Post X.K X.mg F ι (s1 .len x S) (VP X.K Q) W) : BC X (.builtin "len") [v] H Q := by
  simp only [s1] at h
  split at h
  · rename_i s e
    have r := sr.now rx e
    split at h
    · rename_i hz
      exact ⟨_, L2.call_len_str, s, by rw [r], hz, fin_t sr h (.int _)⟩
    · exact h.elim
  · rename_i xs e
    obtain ⟨p, vs, rfl, hp, r⟩ := sr.now rx e
    refine ⟨_, call_len_seq, p, vs, rfl, .inl (SqL.of hp), ?_⟩
    rw [r.length]; exact fin_t sr h (.int _)
  · rename_i xs e
    obtain ⟨p, vs, rfl, hp, r⟩ := sr.now rx e
    refine ⟨_, call_len_seq, p, vs, rfl, .inr hp, ?_⟩
    rw [r.length]; exact fin_t sr h (.int _)
  · rename_i kvs e
    obtain ⟨p, ws, rfl, hp, r⟩ := sr.now rx e
    refine ⟨fun xs H Q => ∃ a kvs, xs = [V.ref a] ∧ H a = some (.dK kvs) ∧ Q (.int kvs.length) H, ?_, p, ws, rfl, hp, ?_⟩
    · intro pins s σ H xs us Q I r h
      obtain ⟨a, kvs, rfl, e, q⟩ := h
      obtain ⟨u, rfl, rx⟩ := vals1 r
      cases rx
      exact d_len I (.inl e) fun t s' I' => ⟨.int _, H, I', ⟨_, rfl⟩, q⟩
    · rw [r.length]; exact fin_t sr h (.int _)
  · rename_i xs e
    obtain ⟨p, vs, rfl, hp, r⟩ := sr.now rx e
    refine ⟨_, call_len_seq, p, vs, rfl, .inl hp, ?_⟩
    rw [r.length]; exact fin_t sr h (.int _)
  · exact h.elim
theorem abs_ok (sr : SR X.K F ι S H) (rx : RVr X.K F ι v x) (h : Post X.K X.mg F ι (s1 .abs x S) (VP X.K Q) W) : BC X (.builtin "abs") [v] H Q := by
  simp only [s1] at h
  split at h
  · exact ⟨_, call_abs, _, by rw [RT.int_inv rx], fin_t sr h (.int _)⟩
  · exact h.elim
theorem int_ok (sr : SR X.K F ι S H) (rx : RVr X.K F ι v x) (h : Post X.K X.mg F ι (s1 .int_ x S) (VP X.K Q) W) : BC X (.type "int") [v] H Q := by
  simp only [s1] at h
  split at h
  · exact ⟨_, call_int1, .inl ⟨_, by rw [RT.int_inv rx], fin_t sr h (.int _)⟩⟩
  · exact ⟨_, call_int1, .inr ⟨_, by rw [RT.bl_inv rx], fin_t sr h (.int _)⟩⟩
  · exact h.elim
theorem str_ok (sr : SR X.K F ι S H) (rx : RVr X.K F ι v x) (h : Post X.K X.mg F ι (s1 .str_ x S) (VP X.K Q) W) : BC X (.type "str") [v] H Q := by
  simp only [s1] at h
  split at h
  · split at h
    · rename_i hz
      exact ⟨_, call_str_int, _, by rw [RT.int_inv rx], hz, fin_t sr h (.str _)⟩
    · exact h.elim
  · exact h.elim
theorem list_ok (sr : SR X.K F ι S H) (rx : RVr X.K F ι v x) (h : Post X.K X.mg F ι (s1 .list_ x S) (VP X.K Q) W) : BC X (.type "list") [v] H Q := by
  simp only [s1] at h
  split at h
  · rename_i xs e
    obtain ⟨p, vs, rfl, hp, r⟩ := sr.now rx e
    exact ⟨_, call_list_of, p, vs, rfl, .inl (SqL.of hp), fin_l sr h r⟩
  · rename_i xs e
    obtain ⟨p, vs, rfl, hp, r⟩ := sr.now rx e
    exact ⟨_, call_list_of, p, vs, rfl, .inr hp, fin_l sr h r⟩
  · rename_i xs e
    obtain ⟨p, vs, rfl, hp, r⟩ := sr.now rx e
    exact ⟨_, call_list_of, p, vs, rfl, .inl hp, fin_l sr h r⟩
  · exact h.elim
theorem tuple_ok (sr : SR X.K F ι S H) (rx : RVr X.K F ι v x) (h : Post X.K X.mg F ι (s1 .tuple_ x S) (VP X.K Q) W) : BC X (.type "tuple") [v] H Q := by
  simp only [s1] at h
  split at h
  · rename_i xs e
    obtain ⟨p, vs, rfl, hp, r⟩ := sr.now rx e
    exact ⟨_, call_tuple_of, p, vs, rfl, .inl ⟨SqL.of hp, fin_tup sr h r⟩⟩
  · rename_i xs e
    have rt := tup_now sr rx e
    obtain ⟨p, vs, rfl, hp, r⟩ := sr.now rx e
    exact ⟨_, call_tuple_of, p, vs, rfl, .inr ⟨hp, fin_t sr h rt⟩⟩
  · exact h.elim
theorem tups_of_some : ∀ {xs : List T} {ts : List (List T)}, tups? xs = some ts → xs = ts.map T.tup
  | [], ns, e => by cases e; rfl
  | x :: xs, ns, e => by
    cases x <;> simp only [tups?, Option.map_eq_some_iff, reduceCtorEq] at e
    obtain ⟨ms, e1, rfl⟩ := e
    rw [tups_of_some e1]; rfl
theorem alike_of {ts : List (List T)} (h : alikeT ts = true) : ∃ shape, ∀ x ∈ ts, shT shape 0 x = true ∧ x ≠ [] := by
  cases ts with
  | nil => exact ⟨fun _ => false, fun x hx => nomatch hx⟩
  | cons y ts =>
    refine ⟨shOf y, fun x hx => ?_⟩
    have := List.all_eq_true.mp h x hx
    rw [Bool.and_eq_true, Bool.not_eq_true', List.isEmpty_eq_false_iff] at this
    exact ⟨this.2, this.1⟩
theorem flat_items {shape : Nat → Bool} : ∀ {vs : List V} {x : List T} (i : Nat), RTs X.K F vs x → shT shape i x = true → vs = x.map fV
  | _, _, _, .nil, _ => rfl
  | _, _, i, .cons h r, hs => by
    rename_i v vs a x
    cases h <;> simp [shT] at hs
    · rw [flat_items (i + 1) r hs.2]; rfl
    · rw [flat_items (i + 1) r hs.2]; rfl
theorem flat_tup {z : V × List T} {shape : Nat → Bool} (h : RT X.K F z.1 (.tup z.2)) (hs : shT shape 0 z.2 = true) : ∃ t, z.1 = V.ref t ∧ SqT X.K F t (z.2.map fV) := by
  obtain ⟨v, x⟩ := z
  cases h with
  | tup h r =>
    rename_i a vs
    have e := flat_items 0 r hs
    subst e
    exact ⟨a, rfl, h⟩
theorem zip_tups : ∀ {vs : List V} {ts : List (List T)}, RTs X.K F vs (ts.map T.tup) → (vs.zip ts).map (·.1) = vs ∧ (vs.zip ts).map (·.2) = ts ∧ ∀ z ∈ vs.zip ts, RT X.K F z.1 (.tup z.2)
  | [], [], _ => ⟨rfl, rfl, fun z hz => nomatch hz⟩
  | v :: vs, t :: ts, .cons h r => by
    obtain ⟨i1, i2, i3⟩ := zip_tups r
    refine ⟨by rw [List.zip_cons_cons, List.map_cons, i1], by rw [List.zip_cons_cons, List.map_cons, i2], fun z hz => ?_⟩
    rw [List.zip_cons_cons] at hz
    rcases List.mem_cons.mp hz with e | hz
    · subst e; exact h
    · exact i3 z hz
theorem unzip_tups : ∀ {ys : List (V × List T)}, (∀ z ∈ ys, RT X.K F z.1 (.tup z.2)) → RTs X.K F (ys.map (·.1)) ((ys.map (·.2)).map T.tup)
  | [], _ => .nil
  | z :: ys, h => .cons (h z (.head _)) (unzip_tups fun y hy => h y (.tail _ hy))
theorem sorted_ok (sr : SR X.K F ι S H) (rx : RVr X.K F ι v x) (h : Post X.K X.mg F ι (s1 .sorted_ x S) (VP X.K Q) W) : BC X (.builtin "sorted") [v] H Q := by
  simp only [s1] at h
  split at h
  · rename_i xs e
    obtain ⟨p, vs, rfl, hp, r⟩ := sr.now rx e
    split at h
    · rename_i ns en
      have ex := ints_of en
      subst ex
      have ev := r.ints
      subst ev
      refine ⟨_, cr_sortedI, p, ns, rfl, SqL.of hp, fun ns' q pm pw n => ?_⟩
      rw [sortI_uniq pm pw]
      exact fin_l sr h (RTs.of_ints _) q n
    · split at h
      · rename_i ss en
        have ex := strs_of en
        subst ex
        have ev := r.strs
        subst ev
        split at h
        · rename_i hz
          refine ⟨_, cr_sortedS, p, ss, rfl, SqL.of hp, hz, fun ns' q pm pw n => ?_⟩
          rw [sortS_uniq pm pw]
          exact fin_l sr h (RTs.of_strs _) q n
        · exact h.elim
      · split at h
        · rename_i ts et
          split at h
          · rename_i ha
            have ex := tups_of_some et
            subst ex
            obtain ⟨shape, hsh⟩ := alike_of ha
            obtain ⟨i1, i2, i3⟩ := zip_tups r
            refine ⟨_, cr_sortedTI, p, vs.zip ts, shape, rfl, by rw [i1]; exact SqL.of hp, fun z hz => ?_, fun ys q pm pw n => ?_⟩
            · obtain ⟨t, e1, h1⟩ := flat_tup (i3 z hz) (hsh z.2 (i2 ▸ List.mem_map.mpr ⟨z, hz, rfl⟩)).1
              exact ⟨t, e1, sameT sr.sub h1, hsh z.2 (i2 ▸ List.mem_map.mpr ⟨z, hz, rfl⟩)⟩
            · have hy : (ys.map (·.2)).Perm ts := by
                have := pm.map (fun z : V × List T => z.2)
                rw [i2] at this
                exact this
              have he := sortT_uniq (shape := shape) (fun x hx => (hsh x hx).1) hy pw
              have hr : RTs X.K F (ys.map (·.1)) ((sortT ts).map T.tup) := by
                rw [← he]
                exact unzip_tups fun z hz => i3 z (pm.mem_iff.mp hz)
              exact fin_l sr h hr q n
          · exact h.elim
        · exact h.elim
  · exact h.elim
theorem fin_d {zs : List (Key × T)} {ws : List (Key × V)} (sr : SR X.K F ι S H) (h : Post X.K X.mg F ι (alloc (.dic zs) S) (VP X.K Q) W) (r : RTk X.K F ws zs) : ∀ p, H p = none → Q (.ref p) (upd H p (.dK ws)) := fun p n =>
  h F (ι ++ [p]) _ (sr.pushD n r).2 (sr.pushD n r).1 _ ⟨p, last_at sr, rfl⟩
theorem merge_ok {K : PySem.W.Frag} {F : Hp} : ∀ {more : List (Key × V)} {ys : List (Key × T)} {kvs : List (Key × V)} {zs : List (Key × T)}, RTk K F more ys → RTk K F kvs zs → RTk K F (mergeK kvs more) (mergeT ys zs)
  | [], ys, _, _, r, h => by cases r; exact h
  | (k, v) :: more, ys, kvs, zs, r, h => by
    cases r with
    | @cons _ _ x _ xs hv r => exact merge_ok (more := more) (ys := xs) r (RTk.put k hv h)
theorem pairs_of (sub : Same F H) : ∀ {vs : List V} {xs : List T} {ps : List (Key × T)}, pairs? xs = some ps → RTs X.K F vs xs → ∃ (as : List Addr) (kvs : List (Key × V)), vs = as.map V.ref ∧ RTk X.K F kvs ps ∧ Paired (fun p kv => SqT X.K H p [kV kv.1, kv.2]) as kvs
  | _, [], ps, e, r => by cases e; cases r; exact ⟨[], [], rfl, .nil, .nil⟩
  | _, x :: xs, ps, e, r => by
    cases r with
    | cons hx r =>
      unfold pairs? at e
      split at e
      · cases ‹_ :: _ = []›
      · rename_i a b r' heq
        cases heq
        split at e
        · rename_i k ps' ek ep
          cases e
          obtain ⟨as, kvs, rfl, r1, r2⟩ := pairs_of sub ep r
          cases hx with
          | tup hs rs =>
            rename_i t us
            cases rs with
            | cons ha rs =>
              cases rs with
              | cons hb rs =>
                cases rs
                have e1 := key_of_t ha ek
                subst e1
                exact ⟨t :: as, _, rfl, .cons hb r1, .cons (sameT sub hs) r2⟩
        · cases e
      · cases e
theorem dict_ok (hc : X.calm = true) (sr : SR X.K F ι S H) (rx : RVr X.K F ι v x) (h : Post X.K X.mg F ι (s1 .dict_ x S) (VP X.K Q) W) : BC X (.type "dict") [v] H Q := by
  simp only [s1] at h
  split at h
  · rename_i kvs e
    obtain ⟨p, ws, rfl, hp, r⟩ := sr.now rx e
    exact ⟨_, call_dictD, p, ws, rfl, Rd.of hp, fin_d sr h r⟩
  · rename_i xs e
    obtain ⟨p, vs, rfl, hp, r⟩ := sr.now rx e
    split at h
    · rename_i ps eps
      obtain ⟨as, kvs, rfl, r1, r2⟩ := pairs_of sr.sub eps r
      exact ⟨_, call_dictP hc, p, as, kvs, rfl, SqL.of hp, r2, fin_d sr h (merge_ok r1 .nil)⟩
    · exact h.elim
  · exact h.elim
theorem sum_ok (hc : X.calm = true) (sr : SR X.K F ι S H) (rx : RVr X.K F ι v x) (h : Post X.K X.mg F ι (s1 .sum_ x S) (VP X.K Q) W) : BC X (.builtin "sum") [v] H Q := by
  simp only [s1] at h
  split at h
  · rename_i xs e
    obtain ⟨p, vs, rfl, hp, r⟩ := sr.now rx e
    split at h
    · rename_i ns en
      have ex := ints_of en
      subst ex
      have ev := r.ints
      subst ev
      exact ⟨_, cr_sum hc, p, ns, rfl, SqL.of hp, fin_t sr h (.int _)⟩
    · exact h.elim
  · exact h.elim
theorem max_ok (hc : X.calm = true) (sr : SR X.K F ι S H) (rx : RVr X.K F ι v x) (h : Post X.K X.mg F ι (s1 .max_ x S) (VP X.K Q) W) : BC X (.builtin "max") [v] H Q := by
  simp only [s1] at h
  split at h
  · rename_i xs e
    obtain ⟨p, vs, rfl, hp, r⟩ := sr.now rx e
    split at h
    · rename_i n ns en
      have ex := ints_of en
      subst ex
      have ev := r.ints
      subst ev
      refine ⟨_, cr_max hc, p, n :: ns, rfl, SqL.of hp, by simp, fun m hm hall => ?_⟩
      have sp := maxI_spec ns n
      have : m = maxI n ns := Int.le_antisymm (sp.2 m hm) (hall _ sp.1)
      rw [this]
      exact fin_t sr h (.int _)
    · exact h.elim
  · exact h.elim
theorem min_ok (hc : X.calm = true) (sr : SR X.K F ι S H) (rx : RVr X.K F ι v x) (h : Post X.K X.mg F ι (s1 .min_ x S) (VP X.K Q) W) : BC X (.builtin "min") [v] H Q := by
  simp only [s1] at h
  split at h
  · rename_i xs e
    obtain ⟨p, vs, rfl, hp, r⟩ := sr.now rx e
    split at h
    · rename_i n ns en
      have ex := ints_of en
      subst ex
      have ev := r.ints
      subst ev
      refine ⟨_, cr_min hc, p, n :: ns, rfl, SqL.of hp, by simp, fun m hm hall => ?_⟩
      have sp := minI_spec ns n
      have : m = minI n ns := Int.le_antisymm (hall _ sp.1) (sp.2 m hm)
      rw [this]
      exact fin_t sr h (.int _)
    · exact h.elim
  · exact h.elim
theorem all_ok (hc : X.calm = true) (sr : SR X.K F ι S H) (rx : RVr X.K F ι v x) (h : Post X.K X.mg F ι (s1 .all_ x S) (VP X.K Q) W) : BC X (.builtin "all") [v] H Q := by
  simp only [s1] at h
  split at h
  · rename_i xs e
    obtain ⟨p, vs, rfl, hp, r⟩ := sr.now rx e
    split at h
    · rename_i ns en
      have ex := bls_of en
      subst ex
      have ev := r.bls
      subst ev
      exact ⟨_, cr_all hc, p, ns, rfl, SqL.of hp, fin_t sr h (.bl _)⟩
    · exact h.elim
  · exact h.elim
theorem any_ok (hc : X.calm = true) (sr : SR X.K F ι S H) (rx : RVr X.K F ι v x) (h : Post X.K X.mg F ι (s1 .any_ x S) (VP X.K Q) W) : BC X (.builtin "any") [v] H Q := by
  simp only [s1] at h
  split at h
  · rename_i xs e
    obtain ⟨p, vs, rfl, hp, r⟩ := sr.now rx e
    split at h
    · rename_i ns en
      have ex := bls_of en
      subst ex
      have ev := r.bls
      subst ev
      exact ⟨_, cr_any hc, p, ns, rfl, SqL.of hp, fin_t sr h (.bl _)⟩
    · exact h.elim
  · exact h.elim
theorem max2_ok (hc : X.calm = true) (sr : SR X.K F ι S H) (rx : RVr X.K F ι v x) (ry : RVr X.K F ι u y) (h : Post X.K X.mg F ι (s2 .max2 x y S) (VP X.K Q) W) : BC X (.builtin "max") [v, u] H Q := by
  simp only [s2] at h
  split at h
  · exact ⟨_, call_max2 hc, _, _, by rw [RT.int_inv rx, RT.int_inv ry], fin_t sr h (.int _)⟩
  · exact h.elim
theorem min2_ok (hc : X.calm = true) (sr : SR X.K F ι S H) (rx : RVr X.K F ι v x) (ry : RVr X.K F ι u y) (h : Post X.K X.mg F ι (s2 .min2 x y S) (VP X.K Q) W) : BC X (.builtin "min") [v, u] H Q := by
  simp only [s2] at h
  split at h
  · exact ⟨_, call_min2 hc, _, _, by rw [RT.int_inv rx, RT.int_inv ry], fin_t sr h (.int _)⟩
  · exact h.elim

/-! #### items and slices -/
theorem atI_of {vs : List V} {xs : List T} (r : RTs X.K F vs xs) {i : Int} {z : T} (h : atI xs i = some z) : ∃ w, atI vs i = some w ∧ RT X.K F w z := by
  unfold atI at h ⊢
  rw [r.length]
  cases e : ixN xs.length i with
  | none => rw [e] at h; cases h
  | some j =>
    rw [e] at h
    exact r.get h
theorem idx_seq (sr : SR X.K F ι S H) (rx : RVr X.K F ι v x) (ry : RVr X.K F ι u y) (nd : ∀ kvs, vw S x ≠ some (.dic kvs)) (h : Post X.K X.mg F ι (s2 .idx x y S) (VP X.K Q) W) : BX X v u H Q := by
  simp only [s2] at h
  split at h
  · rename_i xs i e
    obtain ⟨p, vs, rfl, hp, r⟩ := sr.now rx e
    split at h
    · rename_i z ez
      obtain ⟨w, ew, rw'⟩ := atI_of r ez
      exact ⟨_, ix_list, p, vs, _, w, rfl, RT.int_inv ry, SqL.of hp, ew, fin_t sr h rw'⟩
    · exact h.elim
  · rename_i xs i e
    obtain ⟨p, vs, rfl, hp, r⟩ := sr.now rx e
    split at h
    · rename_i z ez
      obtain ⟨w, ew, rw'⟩ := atI_of r ez
      exact ⟨_, ix_tup, p, vs, _, w, rfl, RT.int_inv ry, hp, ew, fin_t sr h rw'⟩
    · exact h.elim
  · rename_i xs i e
    obtain ⟨p, vs, rfl, hp, r⟩ := sr.now rx e
    split at h
    · rename_i z ez
      obtain ⟨w, ew, rw'⟩ := atI_of r ez
      exact ⟨_, ix_list, p, vs, _, w, rfl, RT.int_inv ry, hp, ew, fin_t sr h rw'⟩
    · exact h.elim
  · rename_i s i e
    have r := sr.now rx e
    split at h
    · rename_i hz
      split at h
      · rename_i z ez
        obtain ⟨c, ec, rfl⟩ := Option.map_eq_some_iff.mp ez
        exact ⟨_, ix_str, s, _, c, r, RT.int_inv ry, hz, ec, fin_t sr h (.str _)⟩
      · exact h.elim
    · exact h.elim
  · rename_i kvs z e
    exact absurd e (nd kvs)
  · exact h.elim
theorem idx_dic (sr : SR X.K F ι S H) (rx : RVr X.K F ι v x) (ry : RVr X.K F ι u y) {kvs : List (Key × T)} (e : vw S x = some (.dic kvs)) (h : Post X.K X.mg F ι (s2 .idx x y S) (VP X.K Q) W) :
    ∃ a w, v = .ref a ∧ DGet H a u (some w) ∧ Q w H := by
  obtain ⟨p, ws, rfl, hp, r⟩ := sr.now rx e
  cases y with
  | o j =>
    simp only [s2, e] at h
    exact h.elim
  | t z =>
    simp only [s2, e] at h
    split at h
    · rename_i k ek
      split at h
      · rename_i w ew
        have g := r.get k
        rw [ew] at g
        obtain ⟨w', e1, rw'⟩ := g
        refine ⟨p, w', rfl, ?_, fin_t sr h rw'⟩
        rw [key_of_t ry ek, ← e1]
        exact DGet.k hp
      · exact h.elim
    · exact h.elim
theorem cutV_of {vs : List V} {xs : List T} (r : RTs X.K F vs xs) (lo hi : Option Int) : RTs X.K F (cutV vs lo hi) (cutT xs lo hi) := by
  unfold cutV cutT
  rw [r.length]
  exact (r.drop _).take _
theorem slc_ok (sr : SR X.K F ι S H) (rx : RVr X.K F ι v x) {lo hi : Option Int} (h : Post X.K X.mg F ι (slc S x lo hi) (VP X.K Q) W) : BL X v lo hi H Q := by
  unfold slc at h
  split at h
  · rename_i s e
    have r := sr.now rx e
    split at h
    · rename_i hz
      exact ⟨_, sl_str, s, r, hz, fin_t sr h (.str _)⟩
    · exact h.elim
  · rename_i xs e
    obtain ⟨p, vs, rfl, hp, r⟩ := sr.now rx e
    exact ⟨_, sl_list, p, vs, rfl, SqL.of hp, fin_l sr h (cutV_of r lo hi)⟩
  · rename_i xs e
    have rt := tup_now sr rx e
    obtain ⟨p, vs, rfl, hp, r⟩ := sr.now rx e
    refine ⟨_, sl_tupA, p, vs, rfl, hp, fun hw => ?_, fun _ => fin_tup sr h (cutV_of r lo hi)⟩
    have e : cutT xs lo hi = xs := by
      unfold cutT
      rw [r.length] at hw
      rw [hw.1, hw.2, List.drop_zero, Nat.sub_zero, List.take_length]
    rw [e] at h
    exact fin_t sr h rt
  · exact h.elim

/-! #### methods -/
theorem append_ok (sr : SR X.K F ι S H) (rx : RVr X.K F ι v x) (ry : RVr X.K F ι u y) (h : Post X.K X.mg F ι (s2 .append x y S) (VP X.K Q) W) : BM X "list.append" v [u] H Q ∧ tyV X.K "list" v H := by
  simp only [s2] at h
  split at h
  · rename_i i
    obtain ⟨a, ea, rfl⟩ := rx
    split at h
    · rename_i z S1 ez
      obtain ⟨F1, x1, s1', r1⟩ := sr.fz ry ez
      split at h
      · rename_i xs es
        obtain ⟨hf, vs, hH, r⟩ := s1'.ob i a _ ea es
        split at h
        · rename_i hz
          refine ⟨⟨_, mt_append, a, vs, u, rfl, rfl, hH, by rw [r.length]; exact hz, ?_⟩, .inl ⟨rfl, vs, SqL.of hH⟩⟩
          exact h F1 ι _ x1 (s1'.writeL ea es (r.append (.cons r1 .nil))) _ .non
        · exact h.elim
      · exact h.elim
    · exact h.elim
  · exact h.elim
theorem extend_ok (sr : SR X.K F ι S H) (rx : RVr X.K F ι v x) (ry : RVr X.K F ι u y) (h : Post X.K X.mg F ι (s2 .extend x y S) (VP X.K Q) W) : BM X "list.extend" v [u] H Q ∧ tyV X.K "list" v H := by
  simp only [s2] at h
  split at h
  · rename_i i
    obtain ⟨a, ea, rfl⟩ := rx
    split at h
    · rename_i xs ys es ey
      obtain ⟨hf, vs, hH, r⟩ := sr.ob i a _ ea es
      obtain ⟨p, ws, rfl, hp, rq⟩ := sr.now ry ey
      split at h
      · rename_i hz
        refine ⟨⟨_, mt_extend, a, p, vs, ws, rfl, rfl, hH, hp, by rw [r.length, rq.length]; exact hz, ?_⟩, .inl ⟨rfl, vs, SqL.of hH⟩⟩
        exact h F ι _ Ext.refl (sr.writeL ea es (r.append rq)) _ .non
      · exact h.elim
    · exact h.elim
  · exact h.elim
theorem join_ok (sr : SR X.K F ι S H) (rx : RVr X.K F ι v x) (ry : RVr X.K F ι u y) (h : Post X.K X.mg F ι (s2 .join x y S) (VP X.K Q) W) : BM X "str.join" v [u] H Q ∧ ∃ a, v = .str a := by
  simp only [s2] at h
  split at h
  · rename_i z xs ev
    obtain ⟨p, vs, rfl, hp, r⟩ := sr.now ry ev
    split at h
    · rename_i ss es
      have ex := strs_of es
      subst ex
      have ev := r.strs
      subst ev
      split at h
      · rename_i hz
        exact ⟨⟨_, mt_join, z, p, ss, RT.str_inv rx, rfl, .inl (SqL.of hp), hz, fin_t sr h (.str _)⟩, z, RT.str_inv rx⟩
      · exact h.elim
    · exact h.elim
  · exact h.elim
theorem pop_ok (sr : SR X.K F ι S H) (rx : RVr X.K F ι v x) (h : Post X.K X.mg F ι (s1 .pop x S) (VP X.K Q) W) : BM X "list.pop" v [] H Q ∧ tyV X.K "list" v H := by
  simp only [s1] at h
  split at h
  · rename_i i
    obtain ⟨a, ea, rfl⟩ := rx
    split at h
    · rename_i xs es
      obtain ⟨hf, vs, hH, r⟩ := sr.ob i a _ ea es
      split at h
      · rename_i z ez
        obtain ⟨w, ew, rw'⟩ := r.get ez
        refine ⟨⟨_, mt_pop, a, vs, w, rfl, rfl, hH, by rw [r.length]; exact ew, ?_⟩, .inl ⟨rfl, vs, SqL.of hH⟩⟩
        exact h F ι _ Ext.refl (sr.writeL ea es r.dropLast) _ rw'
      · exact h.elim
    · exact h.elim
  · exact h.elim
theorem RTs.erase : ∀ {vs : List V} {xs : List T} (j : Nat), RTs X.K F vs xs → RTs X.K F (vs.eraseIdx j) (xs.eraseIdx j)
  | _, _, _, .nil => .nil
  | _, _, 0, .cons _ r => r
  | _, _, j + 1, .cons h r => .cons h (RTs.erase j r)
theorem popAt_ok (sr : SR X.K F ι S H) (rx : RVr X.K F ι v x) (ry : RVr X.K F ι u y) (h : Post X.K X.mg F ι (s2 .popAt x y S) (VP X.K Q) W) : BM X "list.pop" v [u] H Q ∧ tyV X.K "list" v H := by
  simp only [s2] at h
  split at h
  · rename_i i k
    have eu := RT.int_inv ry
    subst eu
    obtain ⟨a, ea, rfl⟩ := rx
    split at h
    · rename_i xs es
      obtain ⟨hf, vs, hH, r⟩ := sr.ob i a _ ea es
      split at h
      · rename_i hk
        split at h
        · rename_i j ej
          split at h
          · rename_i z ez
            obtain ⟨w, ew, rw'⟩ := r.get ez
            refine ⟨⟨_, mt_popAt, a, vs, k, j, w, rfl, rfl, hH, hk.1, hk.2, by rw [r.length]; exact (ixN_seq ej).1, ew, ?_⟩, .inl ⟨rfl, vs, SqL.of hH⟩⟩
            exact h F ι _ Ext.refl (sr.writeL ea es (r.erase j)) _ rw'
          · exact h.elim
        · exact h.elim
      · exact h.elim
    · exact h.elim
  · exact h.elim
theorem count_vs {z : T} {k : V} (hk : RT X.K F k z) (fz : z.flat = true) : ∀ {vs : List V} {xs : List T}, RTs X.K F vs xs → xs.all T.flat = true → vs.all flatV = true ∧ vs.countP (fun y => eqV y k) = xs.countP fun y => teq y z
  | _, _, .nil, _ => ⟨rfl, rfl⟩
  | v :: vs, x :: xs, .cons h r, hf => by
    rw [List.all_cons, Bool.and_eq_true] at hf
    obtain ⟨i1, i2⟩ := count_vs hk fz r hf.2
    refine ⟨by rw [List.all_cons, flat_of h hf.1, i1]; rfl, ?_⟩
    rw [List.countP_cons, List.countP_cons, i2, eqV_of h hk hf.1 fz]
theorem count_ok (sr : SR X.K F ι S H) (rx : RVr X.K F ι v x) (ry : RVr X.K F ι u y) (h : Post X.K X.mg F ι (s2 .count x y S) (VP X.K Q) W) : BM X "list.count" v [u] H Q := by
  simp only [s2] at h
  split at h
  · rename_i xs z ex
    obtain ⟨p, vs, rfl, hp, r⟩ := sr.now rx ex
    split at h
    · rename_i hf
      rw [Bool.and_eq_true] at hf
      obtain ⟨c1, c2⟩ := count_vs ry hf.1 r hf.2
      refine ⟨_, mt_countV, p, vs, u, rfl, rfl, SqL.of hp, c1, flat_of ry hf.1, ?_⟩
      rw [c2]
      exact fin_t sr h (.int _)
    · exact h.elim
  · exact h.elim
theorem clear_ok (sr : SR X.K F ι S H) (rx : RVr X.K F ι v x) (h : Post X.K X.mg F ι (s1 .clear x S) (VP X.K Q) W) : BM X "list.clear" v [] H Q ∧ tyV X.K "list" v H := by
  simp only [s1] at h
  split at h
  · rename_i i
    obtain ⟨a, ea, rfl⟩ := rx
    split at h
    · rename_i xs es
      obtain ⟨hf, vs, hH, r⟩ := sr.ob i a _ ea es
      refine ⟨⟨_, mt_clear, a, vs, rfl, rfl, hH, ?_⟩, .inl ⟨rfl, vs, SqL.of hH⟩⟩
      exact h F ι _ Ext.refl (sr.writeL ea es .nil) _ .non
    · exact h.elim
  · exact h.elim
theorem reverse_ok (sr : SR X.K F ι S H) (rx : RVr X.K F ι v x) (h : Post X.K X.mg F ι (s1 .reverse x S) (VP X.K Q) W) : BM X "list.reverse" v [] H Q ∧ tyV X.K "list" v H := by
  simp only [s1] at h
  split at h
  · rename_i i
    obtain ⟨a, ea, rfl⟩ := rx
    split at h
    · rename_i xs es
      obtain ⟨hf, vs, hH, r⟩ := sr.ob i a _ ea es
      refine ⟨⟨_, mt_reverse, a, vs, rfl, rfl, hH, ?_⟩, .inl ⟨rfl, vs, SqL.of hH⟩⟩
      exact h F ι _ Ext.refl (sr.writeL ea es r.reverse) _ .non
    · exact h.elim
  · exact h.elim
theorem insert_ok {w : V} {z : RV} (sr : SR X.K F ι S H) (rx : RVr X.K F ι v x) (ry : RVr X.K F ι u y) (rz : RVr X.K F ι w z) (h : Post X.K X.mg F ι (s3 .insert x y z S) (VP X.K Q) W) : BM X "list.insert" v [u, w] H Q ∧ tyV X.K "list" v H := by
  simp only [s3] at h
  split at h
  · rename_i i k
    obtain ⟨a, ea, rfl⟩ := rx
    split at h
    · rename_i t S1 ez
      obtain ⟨F1, x1, s1', r1⟩ := sr.fz rz ez
      split at h
      · rename_i xs es
        obtain ⟨hf, vs, hH, r⟩ := s1'.ob i a _ ea es
        split at h
        · rename_i hz
          have hsz : sizeLine = 16777216 := sizeLine_eq
          refine ⟨⟨_, mt_insert, a, vs, k, w, rfl, by rw [RT.int_inv ry], hH, by rw [r.length]; exact hz.2.2, hz.1, by omega, ?_⟩, .inl ⟨rfl, vs, SqL.of hH⟩⟩
          rw [List.append_assoc]
          exact h F1 ι _ x1 (s1'.writeL ea es ((r.take _).append (.cons r1 (r.drop _)))) _ .non
        · exact h.elim
      · exact h.elim
    · exact h.elim
  · exact h.elim
end
end PV

set_option maxRecDepth 100000
set_option maxHeartbeats 1000000
/-! ## 5. When a text of the machine is one of the language -/
namespace PV
open L2 PyProof.Rows PySem.Spec PySem

def notStar : Expr → Bool
  | .Starred _ _ => false
  | _ => true
def notSuper : Expr → Bool
  | .Call (.Name x _) [] [] _ => x != "super"
  | _ => true
def plainT : Expr → Bool
  | .UnaryOp .Not _ _ => false
  | .BoolOp _ _ _ => false
  | .IfExp _ _ _ _ => false
  | .Compare _ _ _ _ => false
  | _ => true
def notSet : Expr → Bool
  | .Set _ _ _ => false
  | _ => true
def notSlice : Expr → Bool
  | .Slice _ _ _ _ => false
  | _ => true
def notComp : Expr → Bool
  | .ListComp _ _ _ _ => false
  | .SetComp _ _ _ _ => false
  | .DictComp _ _ _ _ _ => false
  | _ => true
def isTupE : Expr → Bool
  | .Tuple _ _ _ => true
  | _ => false
def gl (sc : Scope) (x : Str) : Bool := decide (sc.names.lookup x = some .globalImplicit) && !(x == ("__debug__" : Str))
def vis (sc : Scope) (x : Str) : Bool := (match sc.names.lookup x with | some .local => true | some .cell => true | some .free => true | _ => false) && !(x == ("__debug__" : Str)) && !(x == ("__classdict__" : Str))

/-! ### calls by name, methods -/
def bi1 (nm : Str) (sc : Scope) : Expr → Option Expr
  | .Call (.Name x _) [a] [] _ => if x = nm ∧ gl sc nm = true ∧ notStar a = true then some a else none
  | _ => none
def bi2 (nm : Str) (sc : Scope) : Expr → Option (Expr × Expr)
  | .Call (.Name x _) [a, b] [] _ => if x = nm ∧ gl sc nm = true ∧ notStar a = true ∧ notStar b = true then some (a, b) else none
  | _ => none
def mt0 (nm : Str) : Expr → Option Expr
  | .Call (.Attribute o x ap) [] [] cp => if x = nm ∧ notSuper o = true ∧ (ap.endLine == cp.line) = true then some o else none
  | _ => none
def mt1 (nm : Str) : Expr → Option (Expr × Expr)
  | .Call (.Attribute o x ap) [a] [] cp => if x = nm ∧ notSuper o = true ∧ (ap.endLine == cp.line) = true ∧ notStar a = true then some (o, a) else none
  | _ => none
def mt2 (nm : Str) : Expr → Option (Expr × Expr × Expr)
  | .Call (.Attribute o x ap) [a, b] [] cp => if x = nm ∧ notSuper o = true ∧ (ap.endLine == cp.line) = true ∧ notStar a = true ∧ notStar b = true then some (o, a, b) else none
  | _ => none
/-- a class, or several -/
def isTys (sc : Scope) : List String → List Expr → Bool
  | [], [] => true
  | t :: ts, .Name x _ :: r => decide (x = Str.ofString t) && gl sc x && known t && isTys sc ts r
  | _, _ => false
def isTs (sc : Scope) : List String → Expr → Bool
  | [t], .Name y p => isTys sc [t] [.Name y p]
  | t :: u :: ts, .Tuple cs _ _ => isTys sc (t :: u :: ts) cs
  | _, _ => false
def dIsi (ts : List String) (sc : Scope) : Expr → Option Expr
  | .Call (.Name x _) [a, c] [] _ => if x = ("isinstance" : Str) ∧ gl sc "isinstance" = true ∧ notStar a = true ∧ isTs sc ts c = true ∧ ts.length ≤ 100 then some a else none
  | _ => none
/-- own classes of errors by name, or ValueError -/
def isClN (sc : Scope) : List String → List Expr → Bool
  | [], [] => true
  | t :: ts, .Name x _ :: r => decide (x = Str.ofString t) && gl sc x && isClN sc ts r
  | _, _ => false
def isCl (sc : Scope) : List String → Expr → Bool
  | [t], .Name y p => isClN sc [t] [.Name y p]
  | t :: u :: ts, .Tuple cs _ _ => isClN sc (t :: u :: ts) cs
  | _, _ => false
def dIse (ts : List String) (sc : Scope) : Expr → Option Expr
  | .Call (.Name x _) [a, c] [] _ => if x = ("isinstance" : Str) ∧ gl sc "isinstance" = true ∧ notStar a = true ∧ isCl sc ts c = true ∧ ts.length ≤ 100 then some a else none
  | _ => none
/-- classes that except clauses name -/
def isCau (c : String) : Bool := ["RunError", "NoCourse", "Ringed"].contains c
def okO (fs : List String × List String × List String) : O1 → Bool
  | .ise cs ts => cs.all fs.2.1.contains && ts.all fs.2.2.contains
  | _ => true
def d1 (o : O1) (sc : Scope) (e : Expr) : Option Expr :=
  match o with
  | .neg => match e with
    | .UnaryOp .USub a _ => some a
    | _ => none
  | .len => bi1 "len" sc e
  | .abs => bi1 "abs" sc e
  | .int_ => bi1 "int" sc e
  | .str_ => bi1 "str" sc e
  | .list_ => bi1 "list" sc e
  | .tuple_ => bi1 "tuple" sc e
  | .dict_ => bi1 "dict" sc e
  | .sorted_ => bi1 "sorted" sc e
  | .sum_ => bi1 "sum" sc e
  | .max_ => bi1 "max" sc e
  | .min_ => bi1 "min" sc e
  | .all_ => bi1 "all" sc e
  | .any_ => bi1 "any" sc e
  | .isi ts => dIsi ts sc e
  | .ise _ ts => dIse ts sc e
  | .rev => match e with
    | .Subscript a (.Slice none none (some (.UnaryOp .USub (.Constant (.int 1) _ _) _)) _) _ => some a
    | _ => none
  | .all_of => match e with
    | .Subscript a (.Slice none none none _) _ => some a
    | _ => none
  | .pop => mt0 "pop" e
  | .clear => mt0 "clear" e
  | .reverse => mt0 "reverse" e
def binO : O2 → Option Operator
  | .add => some .Add
  | .sub => some .Sub
  | .mul => some .Mult
  | .fdiv => some .FloorDiv
  | .mod => some .Mod
  | .pow => some .Pow
  | _ => none
def cmpO : O2 → Option CmpOp
  | .eq => some .Eq
  | .ne => some .NotEq
  | .lt => some .Lt
  | .le => some .LtE
  | .gt => some .Gt
  | .ge => some .GtE
  | .isin => some .In
  | .notin => some .NotIn
  | .isn => some .Is
  | .notn => some .IsNot
  | _ => none
def d2 (o : O2) (sc : Scope) (e : Expr) : Option (Expr × Expr) :=
  match binO o with
  | some op => match e with
    | .BinOp a op' b _ => if op' = op then some (a, b) else none
    | _ => none
  | none => match cmpO o with
    | some op => match e with
      | .Compare a [op'] [b] _ => if op' = op ∧ notSet b = true then some (a, b) else none
      | _ => none
    | none => match o with
      | .max2 => bi2 "max" sc e
      | .min2 => bi2 "min" sc e
      | .idx => match e with
        | .Subscript a i _ => if notSlice i = true then some (a, i) else none
        | _ => none
      | .sfrom => match e with
        | .Subscript a (.Slice (some i) none none _) _ => some (a, i)
        | _ => none
      | .sto => match e with
        | .Subscript a (.Slice none (some i) none _) _ => some (a, i)
        | _ => none
      | .append => mt1 "append" e
      | .extend => mt1 "extend" e
      | .join => mt1 "join" e
      | .popAt => mt1 "pop" e
      | .count => mt1 "count" e
      | _ => none
def d3 (o : O3) (sc : Scope) (e : Expr) : Option (Expr × Expr × Expr) :=
  match o with
  | .slice => match e with
    | .Subscript a (.Slice (some i) (some j) none _) _ => some (a, i, j)
    | _ => none
  | .insert => mt2 "insert" e
  | .get => mt2 "get" e

def mNm (N : List Str) (sc : Scope) (fn : Str → Bool) (i : Nat) : Expr → Bool
  | .Name x _ => decide (N[i]? = some x) && (match sc.names.lookup x with | some .local => true | some .cell => fn x | _ => false)
  | _ => false
def mNms (N : List Str) (sc : Scope) (fn : Str → Bool) : List Nat → List Expr → Bool
  | [], [] => true
  | i :: is, e :: es => mNm N sc fn i e && mNms N sc fn is es
  | _, _ => false
def mTg (N : List Str) (sc : Scope) (fn : Str → Bool) : Tg → Expr → Bool
  | .nm i, e => mNm N sc fn i e
  | .tp is, .Tuple es _ _ => mNms N sc fn is es && es.all notStar
  | _, _ => false
def ownP (N : List Str) : List Nat → List (Str × Nat)
  | [] => []
  | i :: is => match N[i]? with
    | some x => (x, i) :: ownP N is
    | none => ownP N is
def tgIn (own : List Nat) : Tg → Bool
  | .nm i => own.contains i
  | .tp is => is.all own.contains
def mKs : List Str → List (Option Expr) → Bool
  | [], [] => true
  | k :: ks, some (.Constant (.str s) _ _) :: r => decide (s = k) && mKs ks r
  | _, _ => false
mutual
def mE (fs : List String × List String × List String) (N : List Str) (sc : Scope) (fn : Str → Bool) : E → Expr → Bool
  | .var i, e => match e with
    | .Name x _ => decide (N[i]? = some x) && vis sc x
    | _ => false
  | .cst t, e => match e with
    | .Constant c _ _ => match t, c with
      | .int i, .int j => decide (i = j)
      | .str s, .str z => decide (s = z)
      | .bl b, .bool d => b == d
      | .non, .none => true
      | _, _ => false
    | _ => false
  | .glb x, e => match e with
    | .Name y _ => decide (y = Str.ofString x) && gl sc y
    | _ => false
  | .op0 o, e => match o, e with
    | .lst, .List [] _ => true
    | .dic, .Dict [] [] _ => true
    | _, _ => false
  | .op1 o a, e => match d1 o sc e with
    | some a' => okO fs o && mE fs N sc fn a a'
    | none => false
  | .op2 o a b, e => match d2 o sc e with
    | some (a', b') => mE fs N sc fn a a' && mE fs N sc fn b b'
    | none => false
  | .op3 o a b c, e => match d3 o sc e with
    | some (a', b', c') => mE fs N sc fn a a' && mE fs N sc fn b b' && mE fs N sc fn c c'
    | none => false
  | .and a b, e => match e with
    | .BoolOp .And (x :: y :: r) p => mE fs N sc fn a x && (match r with | [] => mE fs N sc fn b y | _ :: _ => mE fs N sc fn b (.BoolOp .And (y :: r) p))
    | _ => false
  | .or a b, e => match e with
    | .BoolOp .Or (x :: y :: r) p => mE fs N sc fn a x && (match r with | [] => mE fs N sc fn b y | _ :: _ => mE fs N sc fn b (.BoolOp .Or (y :: r) p))
    | _ => false
  | .not a, e => match e with
    | .UnaryOp .Not x _ => mE fs N sc fn a x
    | _ => false
  | .ite c a b, e => match e with
    | .IfExp c' a' b' _ => mE fs N sc fn c c' && mE fs N sc fn a a' && mE fs N sc fn b b'
    | _ => false
  | .chain o p a b c, e => match e with
    | .Compare a' [o', p'] [b', c'] _ => decide (cmpO o = some o') && decide (cmpO p = some p') && notSet c' && mE fs N sc fn a a' && mE fs N sc fn b b' && mE fs N sc fn c c'
    | _ => false
  | .call f as, e => match e with
    | .Call (.Name x _) es [] _ => decide (x = Str.ofString f) && gl sc x && fs.1.contains f && mEs fs N sc fn as es
    | _ => false
  | .tup as, e => match e with
    | .Tuple es _ _ => mEs fs N sc fn as es
    | _ => false
  | .lst as, e => match e with
    | .List es _ => mEs fs N sc fn as es
    | _ => false
  | .dct ks as, e => match e with
    | .Dict keys values _ => mKs ks keys && mEs fs N sc fn as values && !ks.isEmpty && decide (ks.length = values.length) && decide (ks.length ≤ 15)
    | _ => false
  | .comp own elt tg it cond, e => match e with
    | .ListComp elt' [⟨tg', it', ifs, 0⟩] scope _ => blkC N sc scope (ownP N own) && tgIn own tg && decide ((ownP N own).map (·.2) = own) && mTg N (relS scope sc) (fun x => scope.names.lookup x == some .cell) tg tg' && mI fs N sc fn tg' it it' &&
        (match ifs with
        | [] => match cond with
          | .cst (.bl true) => true
          | _ => false
        | [c] => mE fs N (relS scope sc) (fun x => scope.names.lookup x == some .cell) cond c
        | _ => false) && mE fs N (relS scope sc) (fun x => scope.names.lookup x == some .cell) elt elt'
    | _ => false
def mEs (fs : List String × List String × List String) (N : List Str) (sc : Scope) (fn : Str → Bool) : Es → List Expr → Bool
  | .nil, es => match es with
    | [] => true
    | _ => false
  | .cons a r, es => match es with
    | e :: es => notStar e && mE fs N sc fn a e && mEs fs N sc fn r es
    | [] => false
def mI (fs : List String × List String × List String) (N : List Str) (sc : Scope) (fn : Str → Bool) (tg : Expr) : It → Expr → Bool
  | .one o a, e => notSet e && (match o with
    | .val => mE fs N sc fn a e
    | .range => match bi1 "range" sc e with
      | some a' => mE fs N sc fn a a'
      | none => false
    | .enum => isTupE tg && (match bi1 "enumerate" sc e with
      | some a' => mE fs N sc fn a a'
      | none => false)
    | .rev => match bi1 "reversed" sc e with
      | some a' => mE fs N sc fn a a'
      | none => false
    | .items => false)
  | .two o a b, e => notSet e && (match o with
    | .range2 => match bi2 "range" sc e with
      | some (a', b') => mE fs N sc fn a a' && mE fs N sc fn b b'
      | none => false
    | .zip => isTupE tg && (match bi2 "zip" sc e with
      | some (a', b') => mE fs N sc fn a a' && mE fs N sc fn b b'
      | none => false))
end
/-- y = [..], kept by the comprehension itself -/
def swapOk (sc : Scope) : Expr → Expr → Bool
  | .Name t pos, .ListComp _ _ scope p => decide (sc.names.lookup t = some .local) && pos.line == p.line && !(scope.names.any fun (n, k) => n == t && (k == .local || k == .cell))
  | _, _ => false
mutual
def mS (fs : List String × List String × List String) (N : List Str) (sc : Scope) (fn : Str → Bool) : Sm → Stmt → Bool
  | .ex e, s => match s with
    | .Expr e' _ => notComp e' && mE fs N sc fn e e'
    | _ => false
  | .asg tg e, s => match s with
    | .Assign [t] v _ => mTg N sc fn tg t && mE fs N sc fn e v && (if notComp v = true then !(isTupE t && isTupE v) else swapOk sc t v)
    | _ => false
  | .sset o i e, s => match s with
    | .Assign [.Subscript o' i' _] v _ => notSlice i' && mE fs N sc fn o o' && mE fs N sc fn i i' && mE fs N sc fn e v
    | _ => false
  | .ret e, s => match s with
    | .Return (some e') _ => mE fs N sc fn e e'
    | _ => false
  | .ret0, s => match s with
    | .Return none _ => true
    | _ => false
  | .ite c a b, s => match s with
    | .If c' a' b' _ => mE fs N sc fn c c' && mSs fs N sc fn a a' && mSs fs N sc fn b b'
    | _ => false
  | .for_ tg it body, s => match s with
    | .For tg' it' body' [] _ => mTg N sc fn tg tg' && mI fs N sc fn tg' it it' && mSs fs N sc fn body body'
    | _ => false
  | .whl c body, s => match s with
    | .While c' body' [] _ => mE fs N sc fn c c' && mSs fs N sc fn body body'
    | _ => false
  | .raise c, s => match s with
    | .Raise (some (.Call (.Name x _) [.Constant (.str _) _ _] [] _)) none _ => decide (x = Str.ofString c) && gl sc x && fs.2.1.contains c
    | _ => false
  | .tryK b cs c n m, s => match s with
    | .Try body [.ExceptHandler (some (.Name x _)) (some z) [.Assign [.Name y _] (.Name z2 _) _] _] [] [] _ => mSs fs N sc fn b body && decide (x = Str.ofString c) && gl sc x && fs.2.2.contains c && isCau c && cs.all fs.2.1.contains &&
        decide (N[n]? = some z) && decide (N[m]? = some y) && decide (n ≠ m) && decide (z2 = z) && decide (sc.names.lookup z = some .local) && decide (sc.names.lookup y = some .local) && vis sc z
    | _ => false
  | .cont, s => match s with
    | .Continue _ => true
    | _ => false
  | .brk, s => match s with
    | .Break _ => true
    | _ => false
def mSs (fs : List String × List String × List String) (N : List Str) (sc : Scope) (fn : Str → Bool) : Ss → List Stmt → Bool
  | .nil, ss => match ss with
    | [] => true
    | _ => false
  | .cons a r, ss => match ss with
    | s :: ss => mS fs N sc fn a s && mSs fs N sc fn r ss
    | [] => false
end
end PV

set_option maxRecDepth 100000
set_option maxHeartbeats 2000000
/-! ## 6. The operations as texts -/
namespace PV
open L2 PyProof.Rows PySem.Spec PySem

def biN : List String := ["len", "abs", "int", "str", "list", "tuple", "sorted", "sum", "max", "min", "all", "any", "isinstance", "bool", "dict", "range", "enumerate", "zip", "reversed"]
/-- what a call promises -/
def spC (K : PySem.W.Frag) (mg : Str → Option Value) (call : String → List RV → Store → R RV) (f : String) : Sp := fun vs H Q E =>
  ∃ F ι S rs, SR K F ι S H ∧ RVs K F ι vs rs ∧ Post K mg F ι (call f rs S) (VP K Q) E
/-- the class d, as a value -/
def ClsAt (mg : Str → Option Value) (d : String) (v : V) (u : Value) : Prop := (∃ D, v = .ref D ∧ u = .ref D ∧ mg (Str.ofString d) = some (.ref D)) ∨ (d = "ValueError" ∧ v = .ty "ValueError" ∧ u = .type "ValueError" ∧ mg (Str.ofString "ValueError") = none)
structure CtxOk (X : Cx) (G : String → Option T) (call : String → List RV → Store → R RV) (fs : List String × List String × List String) : Prop where
  calm : X.calm = true
  nd : X.N.Nodup
  kind : X.env.scope.kind = .function
  hu : X.A.units + 64 < cLine
  bi : ∀ x ∈ biN, X.mg (Str.ofString x) = none
  glb : ∀ x y, G x = some y → ∃ u v, X.mg (Str.ofString x) = some u ∧ RelV v u ∧ ∀ F, RT X.K F v y
  fns : ∀ f ∈ fs.1, ∃ (a : Addr) (fd : FuncData) (ps : List Str) (k : Nat), X.mg (Str.ofString f) = some (.ref a) ∧ PySem.W.keepIn X.K (.ref a) = true ∧ Room k X.A ∧ Binds X.K fd ps [] ∧
    FnOk X.prog X.w X.K X.mg X.base (L2.CX X.prog X.w) k a fd ps (spC X.K X.mg call f)
  exc : ∀ c ∈ fs.2.1, ∃ C, X.mg (Str.ofString c) = some (.ref C) ∧ PySem.W.excIn X.K C [.type "ValueError", .type "Exception", .type "BaseException", .type "object"] "ValueError.__new__" = true ∧ PySem.W.keepIn X.K (.ref C) = true ∧
    PySem.W.subIn X.K (.ref C) (.type "BaseException") = some true ∧ PySem.W.typeIn X.K (.ref C) = some (.type "type") ∧ PySem.W.nsIn X.K mainGlobals (Str.ofString c) = some (some (.ref C))
  cls : ∀ d ∈ fs.2.2, ∃ v u, ClsAt X.mg d v u
  exk : ∀ c ∈ fs.2.1, ∀ C, PySem.W.nsIn X.K mainGlobals (Str.ofString c) = some (some (.ref C)) → ∀ d ∈ fs.2.2, ∀ v u, ClsAt X.mg d v u →
    ExcC X.K C ∧ PySem.W.kitOne X.K (.ref C) u = some (exB c d) ∧ (isCau d = true → PySem.W.exmOne X.K (.ref C) u = some (exB c d))
section
variable {X : Cx} {G : String → Option T} {call : String → List RV → Store → R RV} {fs : List String × List String × List String} {σ : L2.St} {H : Hp} {Q Q' : VK} {e a b c : Expr} {W : XK}
theorem RE.mono (h : RE X e σ H Q) (g : ∀ v H1, Q v H1 → Q' v H1) : RE X e σ H Q' := by
  obtain ⟨t, p, q⟩ := h
  exact ⟨fun σ H Q' => ∃ Q, t σ H Q ∧ ∀ v H1, Q v H1 → Q' v H1, ⟨fun pins s σ H Q' I ⟨Q, q, g⟩ => thn (p.run pins s σ H Q I q) fun u s1 ⟨v, H1, I1, r, z⟩ => ⟨v, H1, I1, r, g v H1 z⟩⟩, Q, q, g⟩
theorem RTt.mono {Q Q' : Bool → Hp → Prop} (h : RTt X e σ H Q) (g : ∀ v H1, Q v H1 → Q' v H1) : RTt X e σ H Q' := by
  obtain ⟨t, p, q⟩ := h
  exact ⟨fun σ H Q' => ∃ Q, t σ H Q ∧ ∀ v H1, Q v H1 → Q' v H1, ⟨fun pins s σ H Q' I ⟨Q, q, g⟩ => thn (p.run pins s σ H Q I q) fun u s1 ⟨H1, I1, z⟩ => ⟨H1, I1, g u H1 z⟩⟩, Q, q, g⟩
theorem RA.mono {es : List Expr} {Q Q' : List V → Hp → Prop} (h : RA X es σ H Q) (g : ∀ v H1, Q v H1 → Q' v H1) : RA X es σ H Q' := by
  obtain ⟨t, p, q⟩ := h
  exact ⟨fun σ H Q' => ∃ Q, t σ H Q ∧ ∀ v H1, Q v H1 → Q' v H1, ⟨fun pos pins s σ H Q' I ⟨Q, q, g⟩ => thn (p.run pos pins s σ H Q I q) fun u s1 ⟨v, H1, I1, r, z⟩ => ⟨v, H1, I1, r, g v H1 z⟩⟩, Q, q, g⟩

/-! ### what is seen of a text -/
theorem star1 {r : List Expr} (h : notStar a = true) (env : Env) : starEach (a :: r) env = (false, eval a env) :: starEach r env := by
  cases a <;> first | rfl | (simp [notStar] at h)
theorem star_plain {r : List Expr} (h : r.all notStar = true) (pos : Pos) (env : Env) : (backTo pos (starEach r env)).any (·.1) = false := by
  induction r with
  | nil => rfl
  | cons a r ih =>
    rw [List.all_cons, Bool.and_eq_true] at h
    rw [star1 h.1]
    have := ih h.2
    unfold backTo at this ⊢
    rw [List.map_cons, List.any_cons, this]
    rfl
theorem base_of {f : Str} (h : notSuper a = true) (env : Env) : attributeBase a f env (eval a env) = eval a env := by
  unfold attributeBase
  cases a with
  | Call fn as ks p =>
    cases fn with
    | Name x q =>
      cases as with
      | nil =>
        cases ks with
        | nil =>
          have h' : (x != "super") = true := h
          simp only [h', Bool.true_or, if_true]
        | cons _ _ => rfl
      | cons _ _ => rfl
    | _ => rfl
  | _ => rfl
theorem true_plain (h : plainT a = true) (env : Env) (whole : Sem Value) : isTrue a env whole = (do let v ← whole; standAt a.pos; holding [v] (truthy v)) := by
  cases a with
  | UnaryOp op x p => cases op <;> first | rfl | (simp [plainT] at h)
  | BoolOp _ _ _ => simp [plainT] at h
  | IfExp _ _ _ _ => simp [plainT] at h
  | Compare _ _ _ _ => simp [plainT] at h
  | _ => rfl
theorem set_plain (h : notSet a = true) (env : Env) (x : Value) : foldedSetIterable a env x = pure x := by
  cases a <;> first | rfl | (simp [notSet] at h)
theorem marks_plain (h : notSet a = true) (op : CmpOp) : behindInMarks op a = false := by
  cases a <;> first | rfl | (simp [notSet] at h)
theorem slice_plain (h : notSlice a = true) : PlainIx a := by
  intro o i
  cases a <;> first | rfl | (simp [notSlice] at h)
theorem swap_plain (h : notComp a = true) (t : Option Expr) (n : Nat) (env : Env) : swapsWith a t n env = pure false := by
  cases a <;> first | rfl | (simp [notComp] at h)
theorem gl_of {x : Str} (h : gl X.env.scope x = true) : Gl X x ∧ (x == ("__debug__" : Str)) = false := by
  unfold gl at h
  rw [Bool.and_eq_true] at h
  have h1 : X.env.scope.names.lookup x = some .globalImplicit := of_decide_eq_true h.1
  exact ⟨h1, by simpa using h.2⟩
theorem vis_of {x : Str} (h : vis X.env.scope x = true) : Vis X.env.scope x ∧ (x == ("__debug__" : Str)) = false ∧ (x == ("__classdict__" : Str)) = false := by
  unfold vis at h
  simp only [Bool.and_eq_true] at h
  refine ⟨?_, by simpa using h.1.2, by simpa using h.2⟩
  have h1 := h.1.1
  unfold Vis
  split at h1
  · rename_i e; exact .inl e
  · rename_i e; exact .inr (.inl e)
  · rename_i e; exact .inr (.inr e)
  · cases h1

/-! ### built-ins by name -/
theorem re_bi1 {nm : String} {v : Value} (c : CtxOk X G call fs) (hb : nm ∈ biN) (hv : bootBuiltins (Str.ofString nm) = some v) (hn : Str.ofString nm ≠ "__name__") (hd : bi1 (Str.ofString nm) X.env.scope e = some a)
    (hc : (∃ id, v = .builtin id) ∨ ∃ ty, v = .type ty) (h : RE X a σ H fun x H1 => BC X v [x] H1 Q) : RE X e σ H Q := by
  unfold bi1 at hd
  split at hd
  · rename_i x p y pos
    split at hd
    · rename_i hx
      obtain ⟨rfl, h1, h2⟩ := hx
      cases hd
      obtain ⟨g1, g2⟩ := gl_of h1
      rcases hc with ⟨id, rfl⟩ | ⟨ty, rfl⟩
      · exact ⟨_, pe_callB bc g1 (c.bi _ hb) hv (pa_cons re pa_nil (star1 h2 _)) hn g2 (star1 h2 _) rfl, h⟩
      · exact ⟨_, pe_callTy bc g1 (c.bi _ hb) hv (pa_cons re pa_nil (star1 h2 _)) hn g2 (star1 h2 _) rfl, h⟩
    · cases hd
  · cases hd
theorem re_bi2 {nm : String} {id : String} (c : CtxOk X G call fs) (hb : nm ∈ biN) (hv : bootBuiltins (Str.ofString nm) = some (.builtin id)) (hn : Str.ofString nm ≠ "__name__") (hd : bi2 (Str.ofString nm) X.env.scope e = some (a, b))
    (h : RE X a σ H fun x H1 => RE X b σ H1 fun y H2 => BC X (.builtin id) [x, y] H2 Q) : RE X e σ H Q := by
  unfold bi2 at hd
  split at hd
  · rename_i x p y z pos
    split at hd
    · rename_i hx
      obtain ⟨rfl, h1, h2, h3⟩ := hx
      cases hd
      obtain ⟨g1, g2⟩ := gl_of h1
      exact ⟨_, pe_callB bc g1 (c.bi _ hb) hv (pa_cons re (pa_cons re pa_nil (star1 h3 _)) (star1 h2 _)) hn g2 (star1 h2 _) (star_plain (by simp [h3]) _ _), h⟩
    · cases hd
  · cases hd
theorem few1 {p : Pos} {env : Env} (h : notStar a = true) : ((backTo p (starEach [a] env)).all (fun x => !x.1) && (backToKw p (keywordEach [] env)).all (fun x => x.1.isSome)
    && decide (([a] : List Expr).length + ([] : List Keyword).length + (if ([] : List Keyword).isEmpty then 0 else 1) < 30)) = true := by
  rw [star1 h]
  rfl
theorem few2 {p : Pos} {env : Env} (h : notStar a = true) (h' : notStar b = true) : ((backTo p (starEach [a, b] env)).all (fun x => !x.1) && (backToKw p (keywordEach [] env)).all (fun x => x.1.isSome)
    && decide (([a, b] : List Expr).length + ([] : List Keyword).length + (if ([] : List Keyword).isEmpty then 0 else 1) < 30)) = true := by
  rw [star1 h, star1 h']
  rfl
/-- a list's method -/
theorem re_lm0 {nm : Str} {id : String} (slot : Slot "list" nm id) (hty : typeOf (.builtin id) = pure (.type "method_descriptor")) (hd : mt0 nm e = some a)
    (h : RE X a σ H fun x H1 => BM X id x [] H1 Q ∧ tyV X.K "list" x H1) : RE X e σ H Q := by
  unfold mt0 at hd
  split at hd
  · rename_i o x ap cp
    split at hd
    · rename_i hx
      obtain ⟨rfl, h1, h2⟩ := hx
      cases hd
      exact ⟨_, pe_bm0 PySem.F.plainAttrs_list slot hty bm re (base_of h1 _) h2, h.mono fun v H1 q => ⟨q.2, q.1⟩⟩
    · cases hd
  · cases hd
theorem re_lm1 {nm : Str} {id : String} (slot : Slot "list" nm id) (hty : typeOf (.builtin id) = pure (.type "method_descriptor")) (hd : mt1 nm e = some (a, b))
    (h : RE X a σ H fun x H1 => tyV X.K "list" x H1 ∧ RE X b σ H1 fun y H2 => BM X id x [y] H2 Q) : RE X e σ H Q := by
  unfold mt1 at hd
  split at hd
  · rename_i o x ap y cp
    split at hd
    · rename_i hx
      obtain ⟨rfl, h1, h2, h3⟩ := hx
      cases hd
      exact ⟨_, pe_bm PySem.F.plainAttrs_list slot hty bm re (pa_cons re pa_nil (star1 h3 _)) (base_of h1 _) (few1 h3) h2 (star1 h3 _) rfl, h⟩
    · cases hd
  · cases hd
theorem re_lm2 {nm : Str} {id : String} (slot : Slot "list" nm id) (hty : typeOf (.builtin id) = pure (.type "method_descriptor")) (hd : mt2 nm e = some (a, b, c))
    (h : RE X a σ H fun x H1 => tyV X.K "list" x H1 ∧ RE X b σ H1 fun y H2 => RE X c σ H2 fun z H3 => BM X id x [y, z] H3 Q) : RE X e σ H Q := by
  unfold mt2 at hd
  split at hd
  · rename_i o x ap y z cp
    split at hd
    · rename_i hx
      obtain ⟨rfl, h1, h2, h3, h4⟩ := hx
      cases hd
      exact ⟨_, pe_bm PySem.F.plainAttrs_list slot hty bm re (pa_cons re (pa_cons re pa_nil (star1 h4 _)) (star1 h3 _)) (base_of h1 _) (few2 h3 h4) h2 (star1 h3 _) (star_plain (by simp [h4]) _ _), h⟩
    · cases hd
  · cases hd

/-! ### isinstance -/
def tysN : List String := ["NoneType", "bool", "int", "str", "list", "tuple", "dict"]
def knN : List String := ["bool", "int", "str", "list", "tuple", "dict"]
theorem kit_all : (tysN.all fun a => knN.all fun b => decide (kitB a b = some (below a b))) = true := by decide +kernel
theorem kit_of {K : PySem.W.Frag} {a b : String} (ha : a ∈ tysN) (hb : known b = true) : PySem.W.kitOne K (.type a) (.type b) = some (below a b) := by
  have h1 := List.all_eq_true.mp kit_all a ha
  have h2 := List.all_eq_true.mp h1 b (by simpa [known, knN] using hb)
  exact kit_ty (of_decide_eq_true h2)
theorem ty_mem {x : T} (h : ∀ c, x ≠ .exn c) : x.ty ∈ tysN := by
  cases x with
  | exn c => exact absurd rfl (h c)
  | _ => simp [T.ty, tysN]
theorem RN.ty {F : Hp} {v : V} {x : T} (r : RN X.K F H v x) (hx : ∀ c, x ≠ .exn c) : TyX X.K H v (.type x.ty) := by
  cases x with
  | exn c => exact absurd rfl (hx c)
  | non => cases r; exact .base .non
  | bl b => cases r; exact .base (.bl b)
  | int i => cases r; exact .base (.int i)
  | str s => cases r; exact .base (.str s)
  | lst xs => obtain ⟨a, vs, rfl, h, _⟩ := r; exact .base (.lst h)
  | dic xs => obtain ⟨a, vs, rfl, h, _⟩ := r; exact .base (.dK h)
  | tup xs =>
    obtain ⟨a, vs, rfl, h, _⟩ := r
    rcases h with (h | ⟨o, h⟩) | ⟨o, its, n, h, hc, _⟩
    · exact .base (.tup h)
    · exact .fTuple h
    · exact .kTuple h hc
  | rol xs =>
    obtain ⟨a, vs, rfl, h, _⟩ := r
    rcases h with (h | ⟨o, h⟩) | ⟨o, its, n, h, hc, _⟩
    · exact .base (.lst h)
    · exact .base (.frz h)
    · exact .kList h hc
theorem boot_tys : (knN.all fun b => decide (bootBuiltins (Str.ofString b) = some (.type b)) && decide (Str.ofString b ≠ "__name__") && biN.contains b) = true := by decide +kernel
theorem pe_ty {t : String} {x : Str} {p : Pos} (c : CtxOk X G call fs) (h1 : x = Str.ofString t) (h2 : gl X.env.scope x = true) (h3 : known t = true) : PE X (.Name x p) (tC (.ty t)) := by
  subst h1
  obtain ⟨g1, g2⟩ := gl_of h2
  have h4 := List.all_eq_true.mp boot_tys t (by simpa [known, knN] using h3)
  simp only [Bool.and_eq_true, decide_eq_true_eq] at h4
  exact pe_bltn g1 (c.bi _ (by simpa using h4.2)) h4.1.1 rfl h4.1.2 g2
theorem pa_tys (c : CtxOk X G call fs) : ∀ {ts : List String} {cs : List Expr}, isTys X.env.scope ts cs = true → PA X cs (fun _ H Q => Q (ts.map V.ty) H) ∧ cs.all notStar = true
  | [], [], _ => ⟨pa_nil, rfl⟩
  | t :: ts, e :: r, h => by
    cases e <;> try (simp [isTys] at h; done)
    rename_i x p
    simp only [isTys, Bool.and_eq_true, decide_eq_true_eq] at h
    obtain ⟨⟨⟨h1, h2⟩, h3⟩, h4⟩ := h
    obtain ⟨i1, i2⟩ := pa_tys c h4
    exact ⟨⟨fun pos pins s σ H Q I q => (pa_cons (pe_ty c h1 h2 h3) i1 rfl).run pos pins s σ H Q I q⟩, by rw [List.all_cons, i2]; rfl⟩
  | [], _ :: _, h => by simp [isTys] at h
  | _ :: _, [], h => by simp [isTys] at h
theorem kit_any {K : PySem.W.Frag} {a : String} (ha : a ∈ tysN) : ∀ {ts : List String}, ts.all known = true → PySem.W.kitAny K (.type a) (ts.map Value.type) = some (ts.any (below a))
  | [], _ => kitAny_nil
  | t :: ts, h => by
    rw [List.all_cons, Bool.and_eq_true] at h
    have ih := kit_any (K := K) ha h.2
    rw [List.map_cons, List.any_cons]
    refine kitAny_cons (kit_of ha h.1) (fun e => ?_) (fun e => ?_)
    · rw [e, Bool.false_or]; exact ih
    · rw [e, Bool.true_or]
theorem tys_known {sc : Scope} : ∀ {ts : List String} {cs : List Expr}, isTys sc ts cs = true → ts.all known = true
  | [], [], _ => rfl
  | t :: ts, e :: r, h => by
    cases e <;> try (simp [isTys] at h; done)
    simp only [isTys, Bool.and_eq_true, decide_eq_true_eq] at h
    rw [List.all_cons, h.1.2, tys_known h.2]; rfl
  | [], _ :: _, h => by simp [isTys] at h
  | _ :: _, [], h => by simp [isTys] at h
theorem clsAll : ∀ ts : List String, Paired ClsV (ts.map V.ty) (ts.map Value.type)
  | [] => .nil
  | t :: ts => .cons (.ty t) (clsAll ts)
theorem re_isi {ts : List String} (c : CtxOk X G call fs) (hd : dIsi ts X.env.scope e = some a)
    (h : RE X a σ H fun v H1 => ∃ x, (∀ c, x ≠ .exn c) ∧ TyX X.K H1 v (.type (T.ty x)) ∧ (∀ p, H1 p = none → TyX X.K (upd H1 p (.tup (ts.map V.ty))) v (.type (T.ty x))) ∧ Q (.bl (ts.any (below x.ty))) H1 ∧ ∀ p, H1 p = none → Q (.bl (ts.any (below x.ty))) (upd H1 p (.tup (ts.map V.ty)))) : RE X e σ H Q := by
  unfold dIsi at hd
  split at hd
  · rename_i x p y z pos
    split at hd
    · rename_i hx
      obtain ⟨rfl, h1, h2, h3, hsz⟩ := hx
      cases hd
      obtain ⟨g1, g2⟩ := gl_of h1
      unfold isTs at h3
      split at h3
      · rename_i t y p'
        have hk := tys_known h3
        obtain ⟨q1, q2⟩ := pa_tys c h3
        have pz := q1
        refine ⟨_, pe_callB call_isi g1 (c.bi "isinstance" (by decide)) (by decide +kernel) (pa_cons re pz (star1 h2 _)) (by decide) g2 (star1 h2 _) (star_plain q2 _ _), ?_⟩
        refine h.mono fun v H1 ⟨xx, hxx, r, _, q, _⟩ => ?_
        have hk1 : known t = true := by simpa using hk
        refine ⟨v, .ty t, _, _, below xx.ty t, rfl, .ty t, r, kit_of (ty_mem hxx) hk1, ?_⟩
        simpa using q
      · rename_i t1 t2 ts cs k p'
        have hk := tys_known h3
        obtain ⟨q1, q2⟩ := pa_tys c h3
        refine ⟨_, pe_callB call_isiT g1 (c.bi "isinstance" (by decide)) (by decide +kernel) (pa_cons re (pa_cons (pe_tup q1) pa_nil rfl) (star1 h2 _)) (by decide) g2 (star1 h2 _) rfl, ?_⟩
        refine h.mono fun v H1 ⟨xx, hxx, _, r, _, q⟩ => ?_
        refine ⟨Nat.le_of_lt (small1000 (by rw [List.length_map]; omega)), fun tp ntp => ?_⟩
        exact ⟨v, tp, _, _, _, _, rfl, upd_same, clsAll _, r tp ntp, kit_any (ty_mem hxx) hk, q tp ntp⟩
      · cases h3
    · cases hd
  · cases hd
/-! ### isinstance of what was caught -/
theorem pe_cl {t : String} {x : Str} {p : Pos} {v : V} {u : Value} (hb : X.mg (Str.ofString "ValueError") = none → bootBuiltins (Str.ofString "ValueError") = some (.type "ValueError")) (h1 : x = Str.ofString t) (h2 : gl X.env.scope x = true) (h3 : ClsAt X.mg t v u) : PE X (.Name x p) (tC v) ∧ ClsV v u := by
  subst h1
  obtain ⟨g1, g2⟩ := gl_of h2
  rcases h3 with ⟨D, rfl, rfl, hm⟩ | ⟨rfl, rfl, rfl, hm⟩
  · exact ⟨pe_glob g1 hm (show RelV (.ref D) (.ref D) from rfl) g2, .own D⟩
  · exact ⟨pe_bltn g1 hm (hb hm) rfl (by decide) g2, .ty _⟩
theorem pa_cls (c : CtxOk X G call fs) : ∀ {ts : List String} {cs : List Expr}, isClN X.env.scope ts cs = true → (∀ t ∈ ts, t ∈ fs.2.2) → ∃ (vs : List V) (us : List Value), PA X cs (fun _ H Q => Q vs H) ∧ cs.all notStar = true ∧ Paired ClsV vs us ∧ vs.length = ts.length ∧
    ∀ e ∈ fs.2.1, ∀ C, PySem.W.nsIn X.K mainGlobals (Str.ofString e) = some (some (.ref C)) → PySem.W.kitAny X.K (.ref C) us = some (ts.any (exB e))
  | [], [], _, _ => ⟨[], [], pa_nil, rfl, .nil, rfl, fun _ _ _ _ => kitAny_nil⟩
  | t :: ts, e :: r, h, hf => by
    cases e <;> try (simp [isClN] at h; done)
    rename_i x p
    simp only [isClN, Bool.and_eq_true, decide_eq_true_eq] at h
    obtain ⟨⟨h1, h2⟩, h4⟩ := h
    obtain ⟨vs, us, i1, i2, i3, i4, i5⟩ := pa_cls c h4 fun z hz => hf z (.tail _ hz)
    obtain ⟨v, u, hvu⟩ := c.cls t (hf t (.head _))
    obtain ⟨p1, p2⟩ := pe_cl (fun _ => by decide +kernel) h1 h2 hvu
    refine ⟨v :: vs, u :: us, ⟨fun pos pins s σ H Q I q => (pa_cons p1 i1 rfl).run pos pins s σ H Q I q⟩, by rw [List.all_cons, i2]; rfl, .cons p2 i3, by simp [i4], fun e he C hC => ?_⟩
    obtain ⟨_, k1, _⟩ := c.exk e he C hC t (hf t (.head _)) v u hvu
    rw [List.any_cons]
    refine kitAny_cons k1 (fun z => ?_) (fun z => ?_)
    · rw [z, Bool.false_or]; exact i5 e he C hC
    · rw [z, Bool.true_or]
  | [], _ :: _, h, _ => by simp [isClN] at h
  | _ :: _, [], h, _ => by simp [isClN] at h
theorem re_ise {ts : List String} (c : CtxOk X G call fs) (hd : dIse ts X.env.scope e = some a) (hts : ∀ t ∈ ts, t ∈ fs.2.2)
    (h : RE X a σ H fun v H1 => ∃ (ad C : Addr) (cn : String), cn ∈ fs.2.1 ∧ v = .ref ad ∧ H1 ad = some (ExK (.ref C) ad) ∧ PySem.W.nsIn X.K mainGlobals (Str.ofString cn) = some (some (.ref C)) ∧ Q (.bl (ts.any (exB cn))) H1 ∧ ∀ p vs, H1 p = none → Q (.bl (ts.any (exB cn))) (upd H1 p (.tup vs))) : RE X e σ H Q := by
  unfold dIse at hd
  split at hd
  · rename_i x p y z pos
    split at hd
    · rename_i hx
      obtain ⟨rfl, h1, h2, h3, hsz⟩ := hx
      cases hd
      obtain ⟨g1, g2⟩ := gl_of h1
      unfold isCl at h3
      split at h3
      · rename_i t y p'
        obtain ⟨vs, us, q1, q2, q3, q4, q5⟩ := pa_cls c h3 hts
        refine ⟨_, pe_callB call_ise1 g1 (c.bi "isinstance" (by decide)) (by decide +kernel) (pa_cons re q1 (star1 h2 _)) (by decide) g2 (star1 h2 _) (star_plain q2 _ _), ?_⟩
        refine h.mono fun v H1 ⟨ad, C, cn, hcn, ev, ha, hC, q, _⟩ => ?_
        subst ev
        cases q3 with
        | nil => simp at q4
        | cons k3 r3 =>
          cases r3 with
          | cons _ _ => simp at q4
          | nil =>
            rename_i w u
            obtain ⟨vt, ut, hvu⟩ := c.cls t (hts t (.head _))
            obtain ⟨eC, _, _⟩ := c.exk cn hcn C hC t (hts t (.head _)) vt ut hvu
            have k5 := q5 cn hcn C hC
            refine ⟨ad, C, w, u, _, rfl, k3, ha, eC, ?_, q⟩
            unfold PySem.W.kitAny at k5
            cases hk : PySem.W.kitOne X.K (.ref C) u with
            | none => rw [hk] at k5; cases k5
            | some bb =>
              rw [hk] at k5
              cases bb with
              | true => exact k5
              | false => exact k5
      · rename_i t1 t2 ts cs k p'
        obtain ⟨vs, us, q1, q2, q3, q4, q5⟩ := pa_cls c h3 hts
        refine ⟨_, pe_callB call_iseN g1 (c.bi "isinstance" (by decide)) (by decide +kernel) (pa_cons re (pa_cons (pe_tup q1) pa_nil rfl) (star1 h2 _)) (by decide) g2 (star1 h2 _) rfl, ?_⟩
        refine h.mono fun v H1 ⟨ad, C, cn, hcn, ev, ha, hC, _, q⟩ => ?_
        subst ev
        refine ⟨Nat.le_of_lt (small1000 (by rw [q4]; omega)), fun tp ntp => ?_⟩
        obtain ⟨vt, ut, hvu⟩ := c.cls t1 (hts t1 (.head _))
        obtain ⟨eC, _, _⟩ := c.exk cn hcn C hC t1 (hts t1 (.head _)) vt ut hvu
        have ne : ad ≠ tp := fun z => by rw [z, ntp] at ha; cases ha
        exact ⟨ad, C, tp, vs, us, _, rfl, upd_same, q3, by rw [upd_ne ne]; exact ha, eC, q5 cn hcn C hC, q tp vs ntp⟩
      · cases h3
    · cases hd
  · cases hd
end
end PV

set_option maxRecDepth 100000
set_option maxHeartbeats 2000000
namespace PV
open L2 PyProof.Rows PySem.Spec PySem
section
variable {X : Cx} {G : String → Option T} {call : String → List RV → Store → R RV} {fs : List String × List String × List String} {σ : L2.St} {H : Hp} {Q Q' : VK} {e a b c : Expr} {W : XK}
/-- a value at hand, and what is wanted of what follows -/
def A1 (X : Cx) (f : RV → Store → R RV) (Q : VK) (W : XK) : VK := fun v H1 => ∃ F ι S x, SR X.K F ι S H1 ∧ RVr X.K F ι v x ∧ Post X.K X.mg F ι (f x S) (VP X.K Q) W
def A2 (X : Cx) (f : RV → RV → Store → R RV) (Q : VK) (W : XK) : V → V → Hp → Prop := fun v u H1 => ∃ F ι S x y, SR X.K F ι S H1 ∧ RVr X.K F ι v x ∧ RVr X.K F ι u y ∧ Post X.K X.mg F ι (f x y S) (VP X.K Q) W
def A3 (X : Cx) (f : RV → RV → RV → Store → R RV) (Q : VK) (W : XK) : V → V → V → Hp → Prop := fun v u w H1 => ∃ F ι S x y z, SR X.K F ι S H1 ∧ RVr X.K F ι v x ∧ RVr X.K F ι u y ∧ RVr X.K F ι w z ∧ Post X.K X.mg F ι (f x y z S) (VP X.K Q) W
theorem op1_snd (ok : CtxOk X G call fs) (o : O1) (ho : okO fs o = true) (hd : d1 o X.env.scope e = some a) (h : RE X a σ H (A1 X (s1 o) Q W)) : RE X e σ H Q := by
  cases o with
  | neg =>
    unfold d1 at hd
    simp only at hd
    split at hd
    · cases hd
      exact ⟨_, pe_un bu re, h.mono fun v H1 ⟨F, ι, S, x, sr, rx, p⟩ => neg_ok sr rx p⟩
    · cases hd
  | len => exact re_bi1 ok (by decide) PySem.boot_len (by decide) hd (.inl ⟨_, rfl⟩) (h.mono fun v H1 ⟨F, ι, S, x, sr, rx, p⟩ => len_ok sr rx p)
  | abs => exact re_bi1 ok (by decide) (v := .builtin "abs") (by decide +kernel) (by decide) hd (.inl ⟨_, rfl⟩) (h.mono fun v H1 ⟨F, ι, S, x, sr, rx, p⟩ => abs_ok sr rx p)
  | int_ => exact re_bi1 ok (by decide) (v := .type "int") (by decide +kernel) (by decide) hd (.inr ⟨_, rfl⟩) (h.mono fun v H1 ⟨F, ι, S, x, sr, rx, p⟩ => int_ok sr rx p)
  | str_ => exact re_bi1 ok (by decide) (v := .type "str") (by decide +kernel) (by decide) hd (.inr ⟨_, rfl⟩) (h.mono fun v H1 ⟨F, ι, S, x, sr, rx, p⟩ => str_ok sr rx p)
  | list_ => exact re_bi1 ok (by decide) (v := .type "list") (by decide +kernel) (by decide) hd (.inr ⟨_, rfl⟩) (h.mono fun v H1 ⟨F, ι, S, x, sr, rx, p⟩ => list_ok sr rx p)
  | tuple_ => exact re_bi1 ok (by decide) (v := .type "tuple") (by decide +kernel) (by decide) hd (.inr ⟨_, rfl⟩) (h.mono fun v H1 ⟨F, ι, S, x, sr, rx, p⟩ => tuple_ok sr rx p)
  | dict_ => exact re_bi1 ok (by decide) (v := .type "dict") (by decide +kernel) (by decide) hd (.inr ⟨_, rfl⟩) (h.mono fun v H1 ⟨F, ι, S, x, sr, rx, p⟩ => dict_ok ok.calm sr rx p)
  | sorted_ => exact re_bi1 ok (by decide) (v := .builtin "sorted") (by decide +kernel) (by decide) hd (.inl ⟨_, rfl⟩) (h.mono fun v H1 ⟨F, ι, S, x, sr, rx, p⟩ => sorted_ok sr rx p)
  | sum_ => exact re_bi1 ok (by decide) (v := .builtin "sum") (by decide +kernel) (by decide) hd (.inl ⟨_, rfl⟩) (h.mono fun v H1 ⟨F, ι, S, x, sr, rx, p⟩ => sum_ok ok.calm sr rx p)
  | max_ => exact re_bi1 ok (by decide) (v := .builtin "max") (by decide +kernel) (by decide) hd (.inl ⟨_, rfl⟩) (h.mono fun v H1 ⟨F, ι, S, x, sr, rx, p⟩ => max_ok ok.calm sr rx p)
  | min_ => exact re_bi1 ok (by decide) (v := .builtin "min") (by decide +kernel) (by decide) hd (.inl ⟨_, rfl⟩) (h.mono fun v H1 ⟨F, ι, S, x, sr, rx, p⟩ => min_ok ok.calm sr rx p)
  | all_ => exact re_bi1 ok (by decide) (v := .builtin "all") (by decide +kernel) (by decide) hd (.inl ⟨_, rfl⟩) (h.mono fun v H1 ⟨F, ι, S, x, sr, rx, p⟩ => all_ok ok.calm sr rx p)
  | any_ => exact re_bi1 ok (by decide) (v := .builtin "any") (by decide +kernel) (by decide) hd (.inl ⟨_, rfl⟩) (h.mono fun v H1 ⟨F, ι, S, x, sr, rx, p⟩ => any_ok ok.calm sr rx p)
  | isi ts =>
    refine re_isi ok hd (h.mono fun v H1 ⟨F, ι, S, x, sr, rx, p⟩ => ?_)
    simp only [s1] at p
    split at p
    · exact p.elim
    · rename_i t hne et
      have hx : ∀ c, t ≠ .exn c := fun c z => hne c z
      refine ⟨t, hx, (sr.now rx et).ty hx, fun q nq => ?_, fin_t sr p (.bl _), fun q nq => ?_⟩
      · exact ((sr.more (u := .tup (ts.map V.ty)) nq).now rx et).ty hx
      · exact fin_t (sr.more (u := .tup (ts.map V.ty)) nq) p (.bl _)
    · exact p.elim
  | ise cs ts =>
    unfold okO at ho
    rw [Bool.and_eq_true, List.all_eq_true, List.all_eq_true] at ho
    refine re_ise ok hd (fun t ht => by simpa using ho.2 t ht) (h.mono fun v H1 ⟨F, ι, S, x, sr, rx, p⟩ => ?_)
    simp only [s1] at p
    split at p
    · rename_i c
      split at p
      · rename_i hc
        cases rx with
        | @exn ad C _ h0 hn =>
          refine ⟨ad, C, c, by simpa using ho.1 c (by simpa using hc), rfl, sr.sub _ _ h0, hn, fin_t sr p (.bl _), fun q vs nq => fin_t (sr.more (u := .tup vs) nq) p (.bl _)⟩
      · exact p.elim
    · exact p.elim
  | rev =>
    unfold d1 at hd
    simp only at hd
    split at hd
    · cases hd
      refine ⟨_, pe_revA re, h.mono fun v H1 ⟨F, ι, S, x, sr, rx, p⟩ => ?_⟩
      simp only [s1] at p
      split at p
      · rename_i xs e1
        obtain ⟨q, vs, rfl, hp, r⟩ := sr.now rx e1
        exact ⟨q, vs, rfl, .inl ⟨SqL.of hp, fin_l sr p r.reverse⟩⟩
      · rename_i xs e1
        obtain ⟨q, vs, rfl, hp, r⟩ := sr.now rx e1
        exact ⟨q, vs, rfl, .inr ⟨hp, fin_tup sr p r.reverse⟩⟩
      · exact p.elim
    · cases hd
  | all_of =>
    unfold d1 at hd
    simp only at hd
    split at hd
    · cases hd
      refine ⟨_, pe_slice sl_list re po_none po_none, h.mono fun v H1 ⟨F, ι, S, x, sr, rx, p⟩ => ?_⟩
      simp only [s1] at p
      split at p
      · rename_i xs e1
        obtain ⟨q, vs, rfl, hp, r⟩ := sr.now rx e1
        have e2 : cutV vs none none = vs := by
          unfold cutV
          rw [HT.sIx_none, HT.sIx_none, List.drop_zero, Nat.sub_zero, List.take_length]
        refine ⟨q, vs, rfl, SqL.of hp, ?_⟩
        rw [e2]
        exact fin_l sr p r
      · exact p.elim
    · cases hd
  | pop => exact re_lm0 PySem.F.slot_list_pop PySem.F.type_list_pop hd (h.mono fun v H1 ⟨F, ι, S, x, sr, rx, p⟩ => pop_ok sr rx p)
  | clear => exact re_lm0 PySem.F.slot_list_clear PySem.F.type_list_clear hd (h.mono fun v H1 ⟨F, ι, S, x, sr, rx, p⟩ => clear_ok sr rx p)
  | reverse => exact re_lm0 PySem.F.slot_list_reverse PySem.F.type_list_reverse hd (h.mono fun v H1 ⟨F, ι, S, x, sr, rx, p⟩ => reverse_ok sr rx p)
/-- d[k] among the subscripts -/
theorem ix_dict (hu : X.A.units + 1 < cLine) : IxR X (fun x y H Q => ∃ a w, x = .ref a ∧ DGet H a y (some w) ∧ Q w H) := by
  intro value slice pins s σ H x y v u Q I rx ry h hs
  obtain ⟨p, r, rfl, g, q⟩ := h
  obtain rfl : v = Value.ref p := rx
  exact tail_any (dict_typeIs I g) slot_dict_getitem.lookup (d_getItem hu I g ry fun w' s' I' rw' => ⟨r, H, I', rw', q⟩) hs
theorem binR (ok : CtxOk X G call fs) (o : O2) {op : Operator} (ho : binO o = some op) {v u : V} (h : A2 X (s2 o) Q W v u H) : BR X (binaryOp op) v u H Q := by
  obtain ⟨F, ι, S, x, y, sr, rx, ry, p⟩ := h
  cases o <;> simp only [binO, Option.some.injEq, reduceCtorEq] at ho <;> subst ho
  · exact add_ok sr rx ry p
  · exact sub_ok sr rx ry p
  · exact mul_ok sr rx ry p
  · exact fdiv_ok sr rx ry p
  · exact mod_ok sr rx ry p
  · exact pow_ok sr rx ry p
theorem cmpR (ok : CtxOk X G call fs) (o : O2) {op : CmpOp} (ho : cmpO o = some op) {v u : V} (h : A2 X (s2 o) Q W v u H) : BR X (compareOp op) v u H Q := by
  have hu := ok.hu
  obtain ⟨F, ι, S, x, y, sr, rx, ry, p⟩ := h
  cases o <;> simp only [cmpO, Option.some.injEq, reduceCtorEq] at ho <;> subst ho
  · exact eq_ok hu sr rx ry p
  · exact ne_ok hu sr rx ry p
  · exact lt_ok sr rx ry p
  · exact le_ok sr rx ry p
  · exact gt_ok sr rx ry p
  · exact ge_ok sr rx ry p
  · exact in_ok (by omega) sr rx ry p
  · exact notin_ok (by omega) sr rx ry p
  · exact isn_ok sr rx ry p
  · exact notn_ok sr rx ry p
/-- a receiver -/
def AP (X : Cx) (f : RV → Store → Bool) : V → Hp → Prop := fun v H1 => ∃ F ι S x, SR X.K F ι S H1 ∧ RVr X.K F ι v x ∧ f x S = true
theorem isL_ty {F : Hp} {ι : List Addr} {S : Store} {v : V} {x : RV} (sr : SR X.K F ι S H) (rx : RVr X.K F ι v x) (h : isL S x = true) : tyV X.K "list" v H := by
  unfold isL at h
  split at h
  · split at h
    · rename_i i _ xs es
      obtain ⟨a, ea, rfl⟩ := rx
      obtain ⟨_, vs, hH, _⟩ := sr.ob i a _ ea es
      exact .inl ⟨rfl, vs, SqL.of hH⟩
    · cases h
  · cases h
theorem op2_snd (ok : CtxOk X G call fs) (o : O2) (hd : d2 o X.env.scope e = some (a, b)) (h : RE X a σ H fun v H1 => AP X (pre2 o) v H1 ∧ RE X b σ H1 fun u H2 => A2 X (s2 o) Q W v u H2) : RE X e σ H Q := by
  unfold d2 at hd
  split at hd
  · rename_i op ho
    split at hd
    · split at hd
      · rename_i hop
        subst hop
        cases hd
        exact ⟨_, pe_op br re re, h.mono fun v H1 h => h.2.mono fun u H2 h => binR ok o ho h⟩
      · cases hd
    · cases hd
  · split at hd
    · rename_i op ho
      split at hd
      · split at hd
        · rename_i hop
          obtain ⟨rfl, hs⟩ := hop
          cases hd
          exact ⟨_, pe_cmpR br re re (marks_plain hs _), h.mono fun v H1 h => h.2.mono fun u H2 h => cmpR ok o ho h⟩
        · cases hd
      · cases hd
    · split at hd
      · exact re_bi2 ok (by decide) (by decide +kernel) (by decide) hd (h.mono fun v H1 h => h.2.mono fun u H2 ⟨F, ι, S, x, y, sr, rx, ry, p⟩ => max2_ok ok.calm sr rx ry p)
      · exact re_bi2 ok (by decide) (by decide +kernel) (by decide) hd (h.mono fun v H1 h => h.2.mono fun u H2 ⟨F, ι, S, x, y, sr, rx, ry, p⟩ => min2_ok ok.calm sr rx ry p)
      · split at hd
        · split at hd
          · rename_i hs
            cases hd
            have hu := ok.hu
            refine ⟨_, pe_ix bx re re (slice_plain hs), h.mono fun v H1 h => h.2.mono fun u H2 ⟨F, ι, S, x, y, sr, rx, ry, p⟩ => ?_⟩
            by_cases hk : ∃ kvs, vw S x = some (.dic kvs)
            · obtain ⟨kvs, ek⟩ := hk
              exact ⟨_, ix_dict (by omega), idx_dic sr rx ry ek p⟩
            · exact idx_seq sr rx ry (fun kvs e => hk ⟨kvs, e⟩) p
          · cases hd
        · cases hd
      · split at hd
        · cases hd
          refine ⟨_, pe_slice bl re (po_some re) po_none, h.mono fun v H1 h => h.2.mono fun u H2 ⟨F, ι, S, x, y, sr, rx, ry, p⟩ => ?_⟩
          simp only [s2] at p
          split at p
          · exact ⟨_, RT.int_inv ry, slc_ok sr rx p⟩
          · exact p.elim
        · cases hd
      · split at hd
        · cases hd
          refine ⟨_, pe_slice bl re po_none (po_some re), h.mono fun v H1 h => h.2.mono fun u H2 ⟨F, ι, S, x, y, sr, rx, ry, p⟩ => ?_⟩
          simp only [s2] at p
          split at p
          · exact ⟨_, RT.int_inv ry, slc_ok sr rx p⟩
          · exact p.elim
        · cases hd
      · exact re_lm1 PySem.F.slot_list_append PySem.F.type_list_append hd (h.mono fun v H1 ⟨⟨F, ι, S, x, sr, rx, p⟩, h⟩ => ⟨isL_ty sr rx p, h.mono fun u H2 ⟨F, ι, S, x, y, sr, rx, ry, p⟩ => (append_ok sr rx ry p).1⟩)
      · exact re_lm1 PySem.F.slot_list_extend PySem.F.type_list_extend hd (h.mono fun v H1 ⟨⟨F, ι, S, x, sr, rx, p⟩, h⟩ => ⟨isL_ty sr rx p, h.mono fun u H2 ⟨F, ι, S, x, y, sr, rx, ry, p⟩ => (extend_ok sr rx ry p).1⟩)
      · unfold mt1 at hd
        split at hd
        · split at hd
          · rename_i hx
            obtain ⟨rfl, h1, h2, h3⟩ := hx
            cases hd
            refine ⟨_, pe_m1 F.slot_str_join F.type_str_join bm re re (star1 h3 _) (base_of h1 _) h2, h.mono fun v H1 ⟨⟨F, ι, S, x, sr, rx, p⟩, h⟩ => ⟨?_, h.mono fun u H2 ⟨F, ι, S, x, y, sr, rx, ry, p⟩ => (join_ok sr rx ry p).1⟩⟩
            unfold pre2 at p
            simp only at p
            split at p
            · exact ⟨_, RT.str_inv rx⟩
            · cases p
          · cases hd
        · cases hd
      · exact re_lm1 PySem.F.slot_list_pop PySem.F.type_list_pop hd (h.mono fun v H1 ⟨⟨F, ι, S, x, sr, rx, p⟩, h⟩ => ⟨isL_ty sr rx p, h.mono fun u H2 ⟨F, ι, S, x, y, sr, rx, ry, p⟩ => (popAt_ok sr rx ry p).1⟩)
      · exact re_lm1 PySem.F.slot_list_count PySem.F.type_list_count hd (h.mono fun v H1 ⟨⟨F, ι, S, x, sr, rx, p⟩, h⟩ => ⟨isL_ty sr rx p, h.mono fun u H2 ⟨F, ι, S, x, y, sr, rx, ry, p⟩ => count_ok sr rx ry p⟩)
      · cases hd
theorem get_ok {F : Hp} {ι : List Addr} {S : Store} {v u w : V} {x y z : RV} (sr : SR X.K F ι S H) (rx : RVr X.K F ι v x) (ry : RVr X.K F ι u y) (rz : RVr X.K F ι w z) (h : Post X.K X.mg F ι (s3 .get x y z S) (VP X.K Q) W) :
    ∃ a o, v = .ref a ∧ DGet H a u o ∧ Q (o.getD w) H := by
  simp only [s3] at h
  split at h
  · rename_i kvs t ex
    obtain ⟨p, ws, rfl, hp, r⟩ := sr.now rx ex
    split at h
    · rename_i k ek
      have g := r.get k
      refine ⟨p, valV ws k, rfl, by rw [key_of_t ry ek]; exact DGet.k hp, ?_⟩
      cases eg : dget kvs k with
      | none => rw [eg] at g h; rw [g]; exact h F ι H Ext.refl sr _ rz
      | some t => rw [eg] at g h; obtain ⟨w', e1, rw'⟩ := g; rw [e1]; exact fin_t sr h rw'
    · exact h.elim
  · exact h.elim
theorem op3_snd (ok : CtxOk X G call fs) (o : O3) (hd : d3 o X.env.scope e = some (a, b, c)) (h : RE X a σ H fun v H1 => AP X (pre3 o) v H1 ∧ RE X b σ H1 fun u H2 => AP X (fun y _ => mid3 o y) u H2 ∧ RE X c σ H2 fun w H3 => A3 X (s3 o) Q W v u w H3) : RE X e σ H Q := by
  cases o with
  | slice =>
    unfold d3 at hd
    simp only at hd
    split at hd
    · cases hd
      refine ⟨_, pe_slice bl re (po_some re) (po_some re), h.mono fun v H1 h => h.2.mono fun u H2 ⟨⟨F0, ι0, S0, y0, sr0, ry0, p0⟩, h⟩ => ?_⟩
      unfold mid3 at p0
      simp only at p0
      split at p0
      · rename_i i
        refine ⟨i, RT.int_inv ry0, h.mono fun w H3 ⟨F, ι, S, x, y, z, sr, rx, ry, rz, p⟩ => ?_⟩
        simp only [s3] at p
        split at p
        · have e1 := RT.int_inv ry
          rw [RT.int_inv ry0] at e1
          cases e1
          exact ⟨_, RT.int_inv rz, slc_ok sr rx p⟩
        · exact p.elim
      · cases p0
    · cases hd
  | insert => exact re_lm2 PySem.F.slot_list_insert PySem.F.type_list_insert hd (h.mono fun v H1 ⟨⟨F, ι, S, x, sr, rx, p⟩, h⟩ => ⟨isL_ty sr rx p, h.mono fun u H2 h => h.2.mono fun w H3 ⟨F, ι, S, x, y, z, sr, rx, ry, rz, p⟩ => (insert_ok sr rx ry rz p).1⟩)
  | get =>
    have hu := ok.hu
    unfold d3 mt2 at hd
    simp only at hd
    split at hd
    · split at hd
      · rename_i hx
        obtain ⟨rfl, h1, h2, h3, h4⟩ := hx
        cases hd
        refine ⟨_, pe_dget2 (by omega) re re re ⟨base_of h1 _, few2 h3 h4, h2, by rw [star1 h3, star1 h4]; rfl⟩, h.mono fun v H1 ⟨⟨F, ι, S, x, sr, rx, p⟩, h⟩ => ?_⟩
        unfold pre3 at p
        simp only at p
        split at p
        · rename_i kvs ek
          obtain ⟨q, ws, rfl, hq, r⟩ := sr.now rx ek
          refine ⟨q, rfl, .inl ⟨ws, .inl hq⟩, h.mono fun u H2 h => h.2.mono fun w H3 ⟨F, ι, S, x, y, z, sr, rx, ry, rz, p⟩ => ?_⟩
          obtain ⟨a', o, e1, g, q'⟩ := get_ok sr rx ry rz p
          cases e1
          exact ⟨o, g, q'⟩
        · cases p
      · cases hd
    · cases hd
end
end PV

set_option maxRecDepth 100000
set_option maxHeartbeats 2000000
/-! ## 7. What is walked, stored, asked for its truth -/
namespace PV
open L2 PyProof.Rows PySem.Spec PySem
section
variable {X : Cx} {G : String → Option T} {call : String → List RV → Store → R RV} {fs : List String × List String × List String} {σ : L2.St} {H : Hp} {Q Q' : VK} {e a b c : Expr} {W : XK} {F : Hp} {ι : List Addr} {S : Store} {v : V} {x : RV} {env : En}
theorem tr_ok (sr : SR X.K F ι S H) (rx : RVr X.K F ι v x) {P : Hp → List Addr → Store → Hp → Bool → Prop} (h : Post X.K X.mg F ι (trB x S) P W) : ∃ k, TruV X.K v H k ∧ P F ι S H k := by
  unfold trB at h
  split at h
  · rename_i s e
    have r := sr.now rx e
    split at h
    · rename_i hz
      refine ⟨_, ?_, h F ι H Ext.refl sr⟩
      rw [r]
      exact ⟨hz, rfl⟩
    · exact h.elim
  · exact h.elim
  · rename_i t hn hne e
    refine ⟨_, ?_, h F ι H Ext.refl sr⟩
    have r := sr.now rx e
    cases t with
    | exn c => exact (hne c rfl).elim
    | non => cases r; rfl
    | bl b => cases r; rfl
    | int i => cases r; rfl
    | str s => exact (hn s rfl).elim
    | lst xs => obtain ⟨a, vs, rfl, hp, q⟩ := r; exact .inl ⟨vs, SqL.of hp, by cases q <;> rfl⟩
    | rol xs => obtain ⟨a, vs, rfl, hp, q⟩ := r; exact .inl ⟨vs, hp, by cases q <;> rfl⟩
    | tup xs => obtain ⟨a, vs, rfl, hp, q⟩ := r; exact .inr (.inl ⟨vs, hp, by cases q <;> rfl⟩)
    | dic xs => obtain ⟨a, vs, rfl, hp, q⟩ := r; exact .inr (.inr ⟨vs, hp, by cases q <;> rfl⟩)
  · exact h.elim
theorem asB_ok (sr : SR X.K F ι S H) (rx : RVr X.K F ι v x) {P : Hp → List Addr → Store → Hp → Bool → Prop} (h : Post X.K X.mg F ι (asB x S) P W) : ∃ k, v = .bl k ∧ P F ι S H k := by
  unfold asB at h
  split at h
  · exact ⟨_, RT.bl_inv rx, h F ι H Ext.refl sr⟩
  · exact h.elim

/-! ### targets -/
theorem nm_ok (hN : X.N.Nodup) {i : Nat} (hm : mNm X.N X.env.scope X.fn i e = true) : PG X e (gName i) := by
  unfold mNm at hm
  split at hm
  · rename_i y p
    rw [Bool.and_eq_true, decide_eq_true_eq] at hm
    obtain ⟨h1, h2⟩ := hm
    split at h2
    · rename_i hl
      exact pg_name hN h1 (.inl hl) (.inr hl)
    · rename_i hl
      exact pg_name hN h1 (.inr hl) (.inl h2)
    · cases h2
  · cases hm
def gNms : List Nat → TGs
  | [] => gNil
  | i :: is => gCons (gName i) (gNms is)
theorem nms_ok (hN : X.N.Nodup) : ∀ {is : List Nat} {es : List Expr}, mNms X.N X.env.scope X.fn is es = true → PGs X es (gNms is) ∧ es.length = is.length
  | [], [], _ => ⟨pgs_nil, rfl⟩
  | i :: is, e :: es, h => by
    simp only [mNms, Bool.and_eq_true] at h
    obtain ⟨h1, h2⟩ := nms_ok hN h.2
    refine ⟨?_, by rw [List.length_cons, List.length_cons, h2]⟩
    have hst : assignEach (e :: es) X.env = (false, assign e X.env) :: assignEach es X.env := by
      cases e <;> first | rfl | (simp [mNm] at h)
    exact pgs_cons (nm_ok hN h.1) h1 (by rw [hst]; rfl)
  | [], _ :: _, h => by simp [mNms] at h
  | _ :: _, [], h => by simp [mNms] at h
theorem each_plain {es : List Expr} (h : es.all notStar = true) (env : PySem.Env) : (assignEach es env).length = es.length ∧ (assignEach es env).findIdx? (·.1) = none := by
  induction es with
  | nil => exact ⟨rfl, rfl⟩
  | cons e es ih =>
    rw [List.all_cons, Bool.and_eq_true] at h
    have ih := ih h.2
    have hst : assignEach (e :: es) env = (false, assign e env) :: assignEach es env := by
      cases e <;> first | rfl | (simp [notStar] at h)
    rw [hst]
    refine ⟨by rw [List.length_cons, List.length_cons, ih.1], ?_⟩
    rw [List.findIdx?_cons]
    simp [ih.2]
theorem sets_ok : ∀ {is : List Nat} {xs : List T} {vs : List V} {σ : L2.St} {env env' : En} {P : L2.St → Hp → Prop}, RTs X.K F vs xs → EnvR X.K F ι σ env → sets is xs env = some env' → (∀ σ', EnvR X.K F ι σ' env' → P σ' H) → gNms is vs σ H P
  | [], [], _, σ, _, _, _, r, er, e, p => by
    cases r; cases e
    exact ⟨rfl, p _ er⟩
  | i :: is, x :: xs, _, σ, _, _, _, r, er, e, p => by
    cases r with
    | cons h r => exact ⟨_, _, rfl, sets_ok r (er.set (r := .t x) h) e p⟩
  | [], _ :: _, _, _, _, _, _, _, _, e, _ => by cases e
  | _ :: _, [], _, _, _, _, _, _, _, e, _ => by cases e
theorem sets_len : ∀ {is : List Nat} {xs : List T} {env env' : En}, sets is xs env = some env' → xs.length = is.length
  | [], [], _, _, _ => rfl
  | _ :: is, _ :: xs, _, _, e => by
    have := sets_len (is := is) (xs := xs) e
    rw [List.length_cons, List.length_cons, this]
  | [], _ :: _, _, _, e => by cases e
  | _ :: _, [], _, _, e => by cases e
theorem tg_ok (hc : X.calm = true) (hN : X.N.Nodup) {tg : Tg} (hm : mTg X.N X.env.scope X.fn tg e = true) (sr : SR X.K F ι S H) (er : EnvR X.K F ι σ env) (rx : RVr X.K F ι v x) {env' : En} (hb : bindT tg x env S = some env') {P : L2.St → Hp → Prop}
    (p : ∀ σ', EnvR X.K F ι σ' env' → P σ' H) : RG X e v σ H P := by
  cases tg with
  | nm i =>
    cases hb
    exact ⟨_, nm_ok hN hm, p _ (er.set rx)⟩
  | tp is =>
    unfold mTg at hm
    split at hm
    · rename_i hh; cases hh
    · rename_i es k pos hh
      cases hh
      rw [Bool.and_eq_true] at hm
      obtain ⟨h1, h2⟩ := nms_ok hN hm.1
      obtain ⟨l1, l2⟩ := each_plain hm.2 X.env
      simp only [bindT] at hb
      split at hb
      · rename_i xs ev
        obtain ⟨q, vs, rfl, hp, r⟩ := sr.now rx ev
        refine ⟨_, pg_tup (n := is.length) hc h1 (by rw [l1, h2]) l2, q, vs, rfl, hp, ?_, sets_ok r er hb p⟩
        rw [r.length, sets_len hb]
      · rename_i xs ev
        obtain ⟨q, vs, rfl, hp, r⟩ := sr.now rx ev
        refine ⟨_, pg_lst (n := is.length) hc h1 (by rw [l1, h2]) l2, q, vs, rfl, SqL.of hp, ?_, sets_ok r er hb p⟩
        rw [r.length, sets_len hb]
      · cases hb
    · cases hm

/-! ### walks -/
structure PlanR (K : PySem.W.Frag) (F : Hp) (ι : List Addr) (J : L2.It) (pl : Plan) : Prop where
  go : ∀ (i : Nat) (F' : Hp) (ι' : List Addr) (S' : Store) (H' : Hp), Ext F F' ι ι' → SR K F' ι' S' H' → stands pl.watch S' → i < pl.items.length → J.go i H'
  stop : ∀ (F' : Hp) (ι' : List Addr) (S' : Store) (H' : Hp), Ext F F' ι ι' → SR K F' ι' S' H' → stands pl.watch S' → J.stop pl.items.length H'
  yld : ∀ (i : Nat) (F' : Hp) (ι' : List Addr) (S' : Store) (H' : Hp) (v : V) (H2 : Hp), Ext F F' ι ι' → SR K F' ι' S' H' → stands pl.watch S' → i < pl.items.length → J.yld i H' v H2 →
    ∃ F2, Ext F' F2 ι' ι' ∧ SR K F2 ι' S' H2 ∧ ∃ x, pl.items[i]? = some x ∧ RT K F2 v x
theorem RTs.at' : ∀ {vs : List V} {xs : List T} {i : Nat} {v : V}, RTs X.K F vs xs → vs[i]? = some v → ∃ x, xs[i]? = some x ∧ RT X.K F v x
  | _, _, _, _, .nil, e => by simp at e
  | _, _, 0, _, .cons h _, e => by simp at e; subst e; exact ⟨_, rfl, h⟩
  | _, _, i + 1, _, .cons _ r, e => by
    obtain ⟨x, h1, h2⟩ := RTs.at' (i := i) r (by simpa using e)
    exact ⟨x, by simpa using h1, h2⟩
/-- the list that is walked, at each later moment -/
theorem wat_now {xs : List T} {p : Addr} {vs : List V} {F' : Hp} {ι' : List Addr} {S' : Store} {H' : Hp} (sr : SR X.K F ι S H) (rx : RVr X.K F ι (.ref p) x) (e : vw S x = some (.lst xs)) (ex : Ext F F' ι ι') (sr' : SR X.K F' ι' S' H') (st : stands (wat x (.lst xs)) S') :
    ∃ vs', H' p = some (.lst vs') ∧ RTs X.K F' vs' xs := by
  have rx' := rx.mono ex
  cases x with
  | t z =>
    cases e
    obtain ⟨q, vs', e1, hp, r⟩ := sr'.now rx' (S := S') (x := .lst xs) rfl
    cases e1
    exact ⟨vs', hp, r⟩
  | o i =>
    obtain ⟨q, vs', e1, hp, r⟩ := sr'.now rx' (st (i, .lst xs) (by simp [wat]))
    cases e1
    exact ⟨vs', hp, r⟩
theorem plan_list {xs : List T} {p : Addr} (sr : SR X.K F ι S H) (rx : RVr X.K F ι (.ref p) x) (e : vw S x = some (.lst xs)) : PlanR X.K F ι (Itl X.K p) ⟨xs, wat x (.lst xs)⟩ where
  go := fun i F' ι' S' H' ex sr' st hi => by
    obtain ⟨vs', h1, r⟩ := wat_now (vs := []) sr rx e ex sr' st
    have hi' : i < vs'.length := by rw [r.length]; exact hi
    exact ⟨vs', vs'[i], SqL.of h1, by simp [hi']⟩
  stop := fun F' ι' S' H' ex sr' st => by
    obtain ⟨vs', h1, r⟩ := wat_now (vs := []) sr rx e ex sr' st
    exact ⟨vs', SqL.of h1, by rw [r.length]; exact Nat.le_refl _⟩
  yld := fun i F' ι' S' H' v H2 ex sr' st hi y => by
    obtain ⟨vs', h1, r⟩ := wat_now (vs := []) sr rx e ex sr' st
    obtain ⟨rfl, hy⟩ := y
    exact ⟨F', Ext.refl, sr', r.at' (hy vs' (SqL.of h1))⟩
theorem plan_tup {xs : List T} {p : Addr} {vs : List V} (h0 : SqT X.K F p vs) (r0 : RTs X.K F vs xs) : PlanR X.K F ι (Itt X.K p) ⟨xs, []⟩ where
  go := fun i F' ι' S' H' ex sr' st hi => by
    have hi' : i < vs.length := by rw [r0.length]; exact hi
    exact ⟨vs, vs[i], sameT (ex.f.trans sr'.sub) h0, by simp [hi']⟩
  stop := fun F' ι' S' H' ex sr' st => ⟨vs, sameT (ex.f.trans sr'.sub) h0, by rw [r0.length]; exact Nat.le_refl _⟩
  yld := fun i F' ι' S' H' v H2 ex sr' st hi y => by
    obtain ⟨rfl, hy⟩ := y
    exact ⟨F', Ext.refl, sr', (r0.mono ex.f).at' (hy vs (sameT (ex.f.trans sr'.sub) h0))⟩
theorem plan_rol {xs : List T} {p : Addr} {vs : List V} (h0 : SqL X.K F p vs) (r0 : RTs X.K F vs xs) : PlanR X.K F ι (Itl X.K p) ⟨xs, []⟩ where
  go := fun i F' ι' S' H' ex sr' st hi => by
    have hi' : i < vs.length := by rw [r0.length]; exact hi
    exact ⟨vs, vs[i], (ex.f.trans sr'.sub).seq h0, by simp [hi']⟩
  stop := fun F' ι' S' H' ex sr' st => ⟨vs, (ex.f.trans sr'.sub).seq h0, by rw [r0.length]; exact Nat.le_refl _⟩
  yld := fun i F' ι' S' H' v H2 ex sr' st hi y => by
    obtain ⟨rfl, hy⟩ := y
    exact ⟨F', Ext.refl, sr', (r0.mono ex.f).at' (hy vs ((ex.f.trans sr'.sub).seq h0))⟩
theorem plan_str {s : Str} : PlanR X.K F ι (Its s) ⟨s.cps.toList.map fun c => .str ⟨#[c]⟩, []⟩ where
  go := fun i F' ι' S' H' ex sr' st hi => by
    rw [List.length_map, Array.length_toList] at hi
    exact hi
  stop := fun F' ι' S' H' ex sr' st => by
    rw [List.length_map, Array.length_toList]
    exact Nat.le_refl _
  yld := fun i F' ι' S' H' v H2 ex sr' st hi y => by
    obtain ⟨rfl, c, hc, rfl⟩ := y
    refine ⟨F', Ext.refl, sr', .str ⟨#[c]⟩, ?_, .str _⟩
    rw [List.getElem?_map, Array.getElem?_toList, hc]
    rfl
theorem range_len (lo : Int) (n : Nat) : (rangeT lo n).length = n := by unfold rangeT; rw [List.length_map, List.length_range]
theorem range_at (lo : Int) {n i : Nat} (h : i < n) : (rangeT lo n)[i]? = some (.int (lo + i)) := by
  unfold rangeT
  rw [List.getElem?_map, List.getElem?_range h]
  rfl
theorem plan_range {lo : Int} {n : Nat} : PlanR X.K F ι (Itr lo n) ⟨rangeT lo n, []⟩ where
  go := fun i F' ι' S' H' ex sr' st hi => by
    rw [range_len] at hi
    exact hi
  stop := fun F' ι' S' H' ex sr' st => by
    rw [range_len]
    exact Nat.le_refl _
  yld := fun i F' ι' S' H' v H2 ex sr' st hi y => by
    rw [range_len] at hi
    obtain ⟨rfl, rfl⟩ := y
    exact ⟨F', Ext.refl, sr', _, range_at lo hi, .int _⟩
theorem enum_len : ∀ (n : Nat) (xs : List T), (enumT n xs).length = xs.length
  | _, [] => rfl
  | n, x :: xs => congrArg (· + 1) (enum_len (n + 1) xs)
theorem enum_at : ∀ (n : Nat) {xs : List T} {i : Nat} {x : T}, xs[i]? = some x → (enumT n xs)[i]? = some (.tup [.int ((n + i : Nat) : Int), x])
  | _, [], _, _, e => by simp at e
  | n, y :: xs, 0, _, e => by simp at e; subst e; rfl
  | n, y :: xs, i + 1, x, e => by
    have := enum_at (n + 1) (xs := xs) (i := i) (x := x) (by simpa using e)
    rw [show n + 1 + i = n + (i + 1) by omega] at this
    simpa [enumT] using this
theorem plan_enum {xs : List T} {p : Addr} (sr : SR X.K F ι S H) (rx : RVr X.K F ι (.ref p) x) (e : vw S x = some (.lst xs)) : PlanR X.K F ι (Ite X.K p) ⟨enumT 0 xs, wat x (.lst xs)⟩ where
  go := fun i F' ι' S' H' ex sr' st hi => by
    rw [enum_len] at hi
    obtain ⟨vs', h1, r⟩ := wat_now (vs := []) sr rx e ex sr' st
    have hi' : i < vs'.length := by rw [r.length]; exact hi
    exact ⟨vs', vs'[i], SqL.of h1, by simp [hi']⟩
  stop := fun F' ι' S' H' ex sr' st => by
    rw [enum_len]
    obtain ⟨vs', h1, r⟩ := wat_now (vs := []) sr rx e ex sr' st
    exact ⟨vs', SqL.of h1, by rw [r.length]; exact Nat.le_refl _⟩
  yld := fun i F' ι' S' H' v H2 ex sr' st hi y => by
    obtain ⟨vs', h1, r⟩ := wat_now (vs := []) sr rx e ex sr' st
    obtain ⟨T0, w, rfl, n0, rfl, hy⟩ := y
    obtain ⟨z, hz, rz⟩ := r.at' (hy vs' (SqL.of h1))
    obtain ⟨s2, x2⟩ := sr'.moreF (u := .tup [.int (i : Nat), w]) n0
    refine ⟨_, x2, s2, _, enum_at 0 hz, .tup (.inl (.inl upd_same)) (.cons ?_ (.cons (rz.mono x2.f) .nil))⟩
    rw [Nat.zero_add]
    exact .int _
theorem zip_len : ∀ (xs ys : List T), (zipT xs ys).length = min xs.length ys.length
  | [], _ => by simp [zipT]
  | _ :: _, [] => by simp [zipT]
  | x :: xs, y :: ys => by
    show (zipT xs ys).length + 1 = _
    rw [zip_len xs ys, List.length_cons, List.length_cons]
    omega
theorem zip_at : ∀ {xs ys : List T} {i : Nat} {x y : T}, xs[i]? = some x → ys[i]? = some y → (zipT xs ys)[i]? = some (.tup [x, y])
  | [], _, _, _, _, e, _ => by simp at e
  | _ :: _, [], _, _, _, _, e => by simp at e
  | _ :: xs, _ :: ys, 0, _, _, e, e' => by simp at e e'; subst e; subst e'; rfl
  | _ :: xs, _ :: ys, i + 1, x, y, e, e' => zip_at (xs := xs) (ys := ys) (i := i) (by simpa using e) (by simpa using e')
theorem plan_zip {xs ys : List T} {p q : Addr} {y : RV} (sr : SR X.K F ι S H) (rx : RVr X.K F ι (.ref p) x) (e : vw S x = some (.lst xs)) (ry : RVr X.K F ι (.ref q) y) (e' : vw S y = some (.lst ys)) :
    PlanR X.K F ι (Itz X.K p q) ⟨zipT xs ys, wat x (.lst xs) ++ wat y (.lst ys)⟩ := by
  have both : ∀ {F' ι' S' H'}, Ext F F' ι ι' → SR X.K F' ι' S' H' → stands (wat x (.lst xs) ++ wat y (.lst ys)) S' → (∃ vs', H' p = some (.lst vs') ∧ RTs X.K F' vs' xs) ∧ ∃ ws', H' q = some (.lst ws') ∧ RTs X.K F' ws' ys := fun ex sr' st =>
    ⟨wat_now (vs := []) sr rx e ex sr' fun z hz => st z (List.mem_append_left _ hz), wat_now (vs := []) sr ry e' ex sr' fun z hz => st z (List.mem_append_right _ hz)⟩
  refine ⟨fun i F' ι' S' H' ex sr' st hi => ?_, fun F' ι' S' H' ex sr' st => ?_, fun i F' ι' S' H' v H2 ex sr' st hi yy => ?_⟩
  · obtain ⟨⟨vs', h1, r1⟩, ws', h2, r2⟩ := both ex sr' st
    rw [zip_len] at hi
    have i1 : i < vs'.length := by rw [r1.length]; omega
    have i2 : i < ws'.length := by rw [r2.length]; omega
    exact ⟨vs', ws', vs'[i], ws'[i], SqL.of h1, SqL.of h2, by simp [i1], by simp [i2]⟩
  · obtain ⟨⟨vs', h1, r1⟩, ws', h2, r2⟩ := both ex sr' st
    refine ⟨vs', ws', SqL.of h1, SqL.of h2, ?_⟩
    show vs'.length ≤ (zipT xs ys).length ∨ ws'.length ≤ (zipT xs ys).length
    rw [zip_len, r1.length, r2.length]
    omega
  · obtain ⟨⟨vs', h1, r1⟩, ws', h2, r2⟩ := both ex sr' st
    obtain ⟨T0, w, u, rfl, n0, rfl, hy1, hy2⟩ := yy
    obtain ⟨z, hz, rz⟩ := r1.at' (hy1 vs' (SqL.of h1))
    obtain ⟨z', hz', rz'⟩ := r2.at' (hy2 ws' (SqL.of h2))
    obtain ⟨s2, x2⟩ := sr'.moreF (u := .tup [w, u]) n0
    exact ⟨_, x2, s2, _, zip_at hz hz', .tup (.inl (.inl upd_same)) (.cons (rz.mono x2.f) (.cons (rz'.mono x2.f) .nil))⟩
theorem plan_rev {xs : List T} {p : Addr} {vs : List V} (sr : SR X.K F ι S H) (rx : RVr X.K F ι (.ref p) x) (e : vw S x = some (.lst xs)) (hl : vs.length = xs.length) : PlanR X.K F ι (Itv X.K p vs.length) ⟨xs.reverse, wat x (.lst xs)⟩ where
  go := fun i F' ι' S' H' ex sr' st hi => by
    rw [List.length_reverse] at hi
    obtain ⟨vs', h1, r⟩ := wat_now (vs := []) sr rx e ex sr' st
    have hl' := r.length
    refine ⟨by rw [hl]; exact hi, vs', vs'[vs.length - 1 - i]'(by omega), SqL.of h1, by simp [show vs.length - 1 - i < vs'.length by omega]⟩
  stop := fun F' ι' S' H' ex sr' st => by
    show vs.length ≤ xs.reverse.length
    rw [List.length_reverse, hl]
    exact Nat.le_refl _
  yld := fun i F' ι' S' H' v H2 ex sr' st hi y => by
    rw [List.length_reverse] at hi
    obtain ⟨vs', h1, r⟩ := wat_now (vs := []) sr rx e ex sr' st
    obtain ⟨rfl, hy⟩ := y
    obtain ⟨z, hz, rz⟩ := r.at' (hy vs' (SqL.of h1))
    refine ⟨F', Ext.refl, sr', z, ?_, rz⟩
    rw [List.getElem?_reverse hi, ← hl]
    exact hz
/-- a list, a tuple or a text, walked -/
theorem pi_any {tg l : Expr} {tl : TE} (hl : PE X l tl) : PI X tg l (fun σ H R => tl σ H fun z H1 => (∃ p, z = .ref p ∧ (∃ ys, SqL X.K H1 p ys) ∧ R (Itl X.K p) H1) ∨ (∃ p, z = .ref p ∧ (∃ ys, SqT X.K H1 p ys) ∧ R (Itt X.K p) H1) ∨ ∃ s, z = .str s ∧ R (Its s) H1) := by
  constructor
  intro pins s σ H R I h
  refine thn (hl.run pins s σ H _ I h) fun u s1 q0 => ?_
  obtain ⟨z, H1, J1, r1, q1⟩ := q0
  rcases q1 with ⟨p, rfl, ⟨ys, hq⟩, q⟩ | ⟨p, rfl, ⟨ys, hq⟩, q⟩ | ⟨t, rfl, q⟩
  · obtain rfl := (show u = Value.ref p from r1)
    obtain ⟨us, _, pl, _⟩ := J1.list hq
    apply wpAny_pyIter_list pl.isList
    exact pi_one (tk := s1.toks) J1 _ (turn_list p _) ⟨_, Heap.get?_push_size _ rfl, rfl, rfl⟩ q
  · obtain rfl := (show u = Value.ref p from r1)
    obtain ⟨us, _, pl, _⟩ := J1.tuple hq
    apply wpAny_pyIter_tuple (show s1.heap.IsTuple p us.toArray from pl)
    exact pi_one (tk := s1.toks) J1 _ (turn_tuple p _) ⟨_, Heap.get?_push_size _ rfl, rfl, rfl⟩ q
  · obtain ⟨tk, rfl⟩ := (show ∃ tk, u = Value.str t tk from r1)
    by_cases ha : t.cps.all (· < 128) = true
    · exact wpAny_pyIter_ascii ha (pi_one (tk := s1.toks) J1 _ (turn_str _ t tk _ (.inl rfl)) ⟨_, Heap.get?_push_size _ rfl, rfl, rfl⟩ q)
    · exact wpAny_pyIter_wide (Bool.eq_false_iff.mpr ha) (pi_one (tk := s1.toks) J1 _ (turn_str _ t tk _ (.inr rfl)) ⟨_, Heap.get?_push_size _ rfl, rfl, rfl⟩ q)
end
end PV

set_option maxRecDepth 100000
set_option maxHeartbeats 4000000
/-! ## 8. The language tells what the machine does: expressions -/
namespace PV
open L2 PyProof.Rows PySem.Spec PySem
section
variable {α β : Type} {K : PySem.W.Frag} {mg : Str → Option Value} {F F1 : Hp} {ι ι1 : List Addr} {r : R α} {f : α → Store → R β} {P P' : Hp → List Addr → Store → Hp → α → Prop} {P2 : Hp → List Addr → Store → Hp → β → Prop} {W W' : XK}
theorem Post.stepN (h : Post K mg F ι (noX r f) P2 W') (g : ∀ F1 ι1 S1 H1 a, Ext F F1 ι ι1 → SR K F1 ι1 S1 H1 → Post K mg F1 ι1 (f a S1) P2 W' → P F1 ι1 S1 H1 a) : Post K mg F ι r P W := by
  cases r with
  | ok a S => exact fun F' ι' H' y s => g F' ι' S H' a y s (Post.ext y h)
  | exc e S => exact h.elim
  | fail => exact h.elim
end
section
variable {X : Cx} {G : String → Option T} {call : String → List RV → Store → R RV} {fs : List String × List String × List String}
theorem pe_call0S {CX : CXT} {k : Nat} {f : Addr} {fd : FuncData} {ps : List Str} {sp : Sp} {E : L2.St → XK} {x : Str} {p pos : Pos} (F : FnOk X.prog X.w X.K X.mg X.base CX k f fd ps sp) (hr : Room k X.A) (hg : Gl X x) (hm : X.mg x = some (.ref f))
    (hk : PySem.W.keepIn X.K (.ref f) = true) (hb : Binds X.K fd ps []) (hx : ∀ σ, PassesAt CX X σ (E σ)) (hdb : (x == ("__debug__" : Str)) = false) : PE X (.Call (.Name x p) [] [] pos) (fun σ H Q => sp [] H Q (E σ)) :=
  ⟨fun pins s σ H Q I h => wpAny_Call_Name_kw (ld_glob I hg hm (PySem.W.callWith_K0 I.kIn hk (run_fnS (us := []) F hr hb (hx σ) I .nil h)) hdb)⟩
/-- a comprehension's block -/
theorem CtxOk.blk (ok : CtxOk X G call fs) {s : Shared} {H : Hp} {scope : Scope} {cl : List (Str × Addr)} {C : Addr} {fp : List Addr} (hk : scope.kind = .function) : CtxOk (X.blk s H scope (compEnvC scope cl C X.env) fp) G call fs :=
  ⟨ok.calm, ok.nd, hk, ok.hu, ok.bi, ok.glb, ok.fns, ok.exc, ok.cls, ok.exk⟩
/-- what is wanted of a value, of many, of a truth, of a walk -/
abbrev BP (Q : Bool → Hp → Prop) : Hp → List Addr → Store → Hp → Bool → Prop := fun _ _ _ H b => Q b H
abbrev LP (K : PySem.W.Frag) (Q : List V → Hp → Prop) : Hp → List Addr → Store → Hp → List RV → Prop := fun F ι _ H rs => ∀ vs, RVs K F ι vs rs → Q vs H
abbrev PP (K : PySem.W.Frag) (R : L2.It → Hp → Prop) : Hp → List Addr → Store → Hp → Plan → Prop := fun F ι _ H pl => ∀ J, PlanR K F ι J pl → R J H
/-- .. in every block of a comprehension -/
def allB (X : Cx) (scope : Scope) (p : Cx → Prop) : Prop := ∀ (s : Shared) (H : Hp) (C : Addr) (cl : List (Str × Addr)) (fp : List Addr), p (X.blk s H scope (compEnvC scope cl C X.env) fp)
def bE (X : Cx) (scope : Scope) (e : Expr) : TE := fun σ H Q => allB X scope fun Y => RE Y e σ H Q
def bT (X : Cx) (scope : Scope) (e : Expr) : TT := fun σ H Q => allB X scope fun Y => RTt Y e σ H Q
def bG (X : Cx) (scope : Scope) (e : Expr) : TG := fun v σ H Q => allB X scope fun Y => RG Y e v σ H Q
theorem bE_ok {scope : Scope} {e : Expr} (s : Shared) (H : Hp) (C : Addr) (cl : List (Str × Addr)) (fp : List Addr) : PE (X.blk s H scope (compEnvC scope cl C X.env) fp) e (bE X scope e) := ⟨fun pins s' σ H' Q I h => re.run pins s' σ H' Q I (h s H C cl fp)⟩
theorem bT_ok {scope : Scope} {e : Expr} (s : Shared) (H : Hp) (C : Addr) (cl : List (Str × Addr)) (fp : List Addr) : PT (X.blk s H scope (compEnvC scope cl C X.env) fp) e (bT X scope e) := ⟨fun pins s' σ H' Q I h => rt.run pins s' σ H' Q I (h s H C cl fp)⟩
theorem bG_ok {scope : Scope} {e : Expr} (s : Shared) (H : Hp) (C : Addr) (cl : List (Str × Addr)) (fp : List Addr) : PG (X.blk s H scope (compEnvC scope cl C X.env) fp) e (bG X scope e) := ⟨fun pins s' σ H' v u Q I r h => rg.run pins s' σ H' v u Q I r (h s H C cl fp)⟩

/-! ### a target that stores within the block's own slots -/
theorem wipe_same : ∀ {vs : List Nat} {σ σ' : L2.St}, σ.length = σ'.length → (∀ i, i ∉ vs → σ[i]? = σ'[i]?) → L2.wipe σ vs = L2.wipe σ' vs := by
  intro vs σ σ' hl h
  apply List.ext_getElem?
  intro i
  by_cases hi : i ∈ vs
  · have key : ∀ {vs : List Nat} {σ : L2.St}, i ∈ vs → i < σ.length → (L2.wipe σ vs)[i]? = some none := by
      intro vs
      induction vs with
      | nil => intro σ hm; cases hm
      | cons v vs ih =>
        intro σ hm hlt
        unfold L2.wipe
        by_cases hv : v = i
        · subst hv
          rw [List.getElem?_set_self (by rw [wipe_length]; exact hlt)]
        · rw [List.getElem?_set_ne hv]
          rcases List.mem_cons.mp hm with e | e
          · exact absurd e.symm hv
          · exact ih e hlt
    by_cases hlt : i < σ.length
    · rw [key hi hlt, key hi (by rw [← hl]; exact hlt)]
    · rw [List.getElem?_eq_none (by rw [wipe_length]; omega), List.getElem?_eq_none (by rw [wipe_length]; omega)]
  · rw [wipe_out hi, wipe_out hi]
    exact h i hi
theorem nms_wipe {own : List Nat} : ∀ {is : List Nat} {vs : List V} {σ : L2.St} {H : Hp} {P : L2.St → Hp → Prop}, (∀ i ∈ is, i ∈ own) → gNms is vs σ H P → gNms is vs σ H fun σ' H' => L2.wipe σ' own = L2.wipe σ own ∧ P σ' H'
  | [], vs, σ, H, P, _, h => ⟨h.1, rfl, h.2⟩
  | i :: is, vs, σ, H, P, ho, h => by
    obtain ⟨v, r, e, h⟩ := h
    refine ⟨v, r, e, ?_⟩
    have q := nms_wipe (own := own) (fun j hj => ho j (List.mem_cons_of_mem _ hj)) (show gNms is r (σ.set i (some v)) H P from h)
    have ew : L2.wipe (σ.set i (some v)) own = L2.wipe σ own := wipe_same (by rw [List.length_set]) fun j hj => List.getElem?_set_ne fun z => hj (by rw [← z]; exact ho i List.mem_cons_self)
    rw [ew] at q
    exact q

theorem gNms_mono {P P' : L2.St → Hp → Prop} (g : ∀ σ H, P σ H → P' σ H) : ∀ {is : List Nat} {vs : List V} {σ : L2.St} {H : Hp}, gNms is vs σ H P → gNms is vs σ H P'
  | [], vs, σ, H, h => ⟨h.1, g _ _ h.2⟩
  | i :: is, vs, σ, H, h => by
    obtain ⟨v, r, e, h⟩ := h
    exact ⟨v, r, e, gNms_mono g (show gNms is r (σ.set i (some v)) H P from h)⟩
theorem noX_bind {α β γ : Type} (r : R α) (f : α → Store → R β) (g : β → Store → R γ) : (noX r f).bind g = noX r fun a S => (f a S).bind g := by cases r <;> rfl
theorem noX_noX {α β γ : Type} (r : R α) (f : α → Store → R β) (g : β → Store → R γ) : noX (noX r f) g = noX r fun a S => noX (f a S) g := by cases r <;> rfl
theorem tgB_ok {X : Cx} {G : String → Option T} {call : String → List RV → Store → R RV} {fs : List String × List String × List String} {F : Hp} {ι : List Addr} {S : Store} {H : Hp} {e : Expr} {own : List Nat} {σ0 : L2.St} {env env' : En} {v : V} {x : T} {P : L2.St → Hp → Prop} (ok : CtxOk X G call fs) {tg : Tg}
    (hm : mTg X.N X.env.scope X.fn tg e = true) (hin : tgIn own tg = true) (sr : SR X.K F ι S H) (er : EnvR X.K F ι (L2.wipe σ0 own) env) (rx : RT X.K F v x) (hb : bindT tg (.t x) env S = some env')
    (p : ∀ σ', EnvR X.K F ι σ' env' → L2.wipe σ' own = L2.wipe σ0 own → P σ' H) : RG X e v (L2.wipe σ0 own) H P := by
  have ww : L2.wipe (L2.wipe σ0 own) own = L2.wipe σ0 own := wipe_same (by rw [wipe_length]) fun i hi => wipe_out hi
  cases tg with
  | nm i =>
    cases hb
    refine ⟨_, nm_ok ok.nd hm, p _ (er.set (r := .t x) rx) ?_⟩
    have hi : i ∈ own := by simpa [tgIn] using hin
    refine (wipe_same (by rw [List.length_set]) fun j hj => ?_).trans ww
    rw [List.getElem?_set_ne fun z => hj (by rw [← z]; exact hi)]
  | tp is =>
    have hi : ∀ i ∈ is, i ∈ own := fun i hi => by
      have := List.all_eq_true.mp hin i hi
      simpa using this
    unfold mTg at hm
    split at hm
    · rename_i hh; cases hh
    · rename_i es k pos hh
      cases hh
      rw [Bool.and_eq_true] at hm
      obtain ⟨h1, h2⟩ := nms_ok ok.nd hm.1
      obtain ⟨l1, l2⟩ := each_plain hm.2 X.env
      simp only [bindT] at hb
      split at hb
      · rename_i xs ev
        obtain ⟨q, vs, rfl, hp, r⟩ := sr.now (r := .t x) rx ev
        refine ⟨_, pg_tup (n := is.length) ok.calm h1 (by rw [l1, h2]) l2, q, vs, rfl, hp, by rw [r.length, sets_len hb], ?_⟩
        exact gNms_mono (fun σ' H' ⟨e1, e2, e3⟩ => e3 ▸ p σ' e2 (e1.trans ww)) (nms_wipe hi (sets_ok (P := fun σ' H' => EnvR X.K F ι σ' env' ∧ H = H') r er hb fun σ' er' => ⟨er', rfl⟩))
      · rename_i xs ev
        obtain ⟨q, vs, rfl, hp, r⟩ := sr.now (r := .t x) rx ev
        refine ⟨_, pg_lst (n := is.length) ok.calm h1 (by rw [l1, h2]) l2, q, vs, rfl, SqL.of hp, by rw [r.length, sets_len hb], ?_⟩
        exact gNms_mono (fun σ' H' ⟨e1, e2, e3⟩ => e3 ▸ p σ' e2 (e1.trans ww)) (nms_wipe hi (sets_ok (P := fun σ' H' => EnvR X.K F ι σ' env' ∧ H = H') r er hb fun σ' er' => ⟨er', rfl⟩))
      · cases hb
    · cases hm
def RW (X : Cx) (e : Expr) : TT := fun σ H Q => ∃ t, PW X e t ∧ t σ H Q
theorem rw {X : Cx} {e : Expr} : PW X e (RW X e) := ⟨fun wh pins s σ H Q I ⟨_, p, q⟩ => p.run wh pins s σ H Q I q⟩
theorem pw_of_and {X : Cx} {es : List Expr} {p : Pos} {t : TT} (h : PT X (.BoolOp .And es p) t) : PW X (.BoolOp .And es p) t := ⟨fun wh pins s σ H Q I q => h.run pins s σ H Q I q⟩
theorem pw_of_or {X : Cx} {es : List Expr} {p : Pos} {t : TT} (h : PT X (.BoolOp .Or es p) t) : PW X (.BoolOp .Or es p) t := ⟨fun wh pins s σ H Q I q => h.run pins s σ H Q I q⟩
theorem cmp_of {sc : Scope} {o : O2} {e a b : Expr} (hc : isCmp o = true) (h : d2 o sc e = some (a, b)) : ∃ op, cmpO o = some op ∧ ∃ pos, notSet b = true ∧ e = .Compare a [op] [b] pos := by
  have hb : binO o = none := by cases o <;> first | rfl | (simp [isCmp] at hc)
  obtain ⟨op, ho⟩ : ∃ op, cmpO o = some op := by cases o <;> first | exact ⟨_, rfl⟩ | (simp [isCmp] at hc)
  unfold d2 at h
  simp only [hb, ho] at h
  split at h
  · split at h
    · rename_i hh
      obtain ⟨rfl, hs⟩ := hh
      cases h
      exact ⟨_, ho, _, hs, rfl⟩
    · cases h
  · cases h
theorem tst_op2 {G : String → Option T} {call : String → List RV → Store → R RV} {o : O2} {a b : E} {env : En} {S : Store} (hc : ¬ isCmp o = true) : tst G call (.op2 o a b) env S = (ev G call (.op2 o a b) env S).bind trB := by
  simp only [tst, ev]
  rw [R.bind_bind]
  congr 1
  funext v S1
  split
  · rw [R.bind_bind]
  · rfl
theorem tst_op1 {G : String → Option T} {call : String → List RV → Store → R RV} {o : O1} {a : E} {env : En} {S : Store} : tst G call (.op1 o a) env S = (ev G call (.op1 o a) env S).bind trB := by
  simp only [tst, ev]
  rw [R.bind_bind]
theorem tst_call {G : String → Option T} {call : String → List RV → Store → R RV} {f : String} {a : Es} {env : En} {S : Store} : tst G call (.call f a) env S = (ev G call (.call f a) env S).bind trB := by
  simp only [tst, ev]
  rw [R.bind_bind]
theorem tst_var {G : String → Option T} {call : String → List RV → Store → R RV} {i : Nat} {env : En} {S : Store} : tst G call (.var i) env S = (ev G call (.var i) env S).bind trB := by
  simp only [tst, ev]
  cases e : env[i]? with
  | none => rfl
  | some o => cases o <;> rfl
theorem tst_cst {G : String → Option T} {call : String → List RV → Store → R RV} {x : T} {env : En} {S : Store} : tst G call (.cst x) env S = (ev G call (.cst x) env S).bind trB := by
  simp only [tst, ev]
  rfl
theorem plain_op1 {fs : List String × List String × List String} {N : List Str} {sc : Scope} {fn : Str → Bool} {o : O1} {a : E} {e : Expr} (h : mE fs N sc fn (.op1 o a) e = true) : plainT e = true := by
  unfold mE at h
  cases e with
  | UnaryOp op x p => cases op <;> first | rfl | (cases o <;> simp [d1, bi1, mt0, dIsi, dIse] at h)
  | BoolOp _ _ _ => cases o <;> simp [d1, bi1, mt0, dIsi, dIse] at h
  | IfExp _ _ _ _ => cases o <;> simp [d1, bi1, mt0, dIsi, dIse] at h
  | Compare _ _ _ _ => cases o <;> simp [d1, bi1, mt0, dIsi, dIse] at h
  | _ => rfl
theorem plain_call {fs : List String × List String × List String} {N : List Str} {sc : Scope} {fn : Str → Bool} {f : String} {a : Es} {e : Expr} (h : mE fs N sc fn (.call f a) e = true) : plainT e = true := by
  unfold mE at h
  split at h
  · rfl
  · cases h
theorem plain_var {fs : List String × List String × List String} {N : List Str} {sc : Scope} {fn : Str → Bool} {i : Nat} {e : Expr} (h : mE fs N sc fn (.var i) e = true) : plainT e = true := by
  unfold mE at h
  split at h
  · rfl
  · cases h
theorem plain_cst {fs : List String × List String × List String} {N : List Str} {sc : Scope} {fn : Str → Bool} {t : T} {e : Expr} (h : mE fs N sc fn (.cst t) e = true) : plainT e = true := by
  unfold mE at h
  split at h
  · rfl
  · cases h
theorem plain_op2 {fs : List String × List String × List String} {N : List Str} {sc : Scope} {fn : Str → Bool} {o : O2} {a b : E} {e : Expr} (hc : ¬ isCmp o = true) (h : mE fs N sc fn (.op2 o a b) e = true) : plainT e = true := by
  unfold mE at h
  cases e with
  | UnaryOp op x p => cases o <;> simp [d2, binO, cmpO, bi2, mt1, isCmp] at h hc
  | BoolOp _ _ _ => cases o <;> simp [d2, binO, cmpO, bi2, mt1, isCmp] at h hc
  | IfExp _ _ _ _ => cases o <;> simp [d2, binO, cmpO, bi2, mt1, isCmp] at h hc
  | Compare _ _ _ _ => cases o <;> simp [d2, binO, cmpO, bi2, mt1, isCmp] at h hc
  | _ => rfl
theorem rol_now {X : Cx} {F H : Hp} {ι : List Addr} {S : Store} {v : V} {x : RV} (sr : SR X.K F ι S H) (rx : RVr X.K F ι v x) {xs : List T} (e : vw S x = some (.rol xs)) : RT X.K F v (.rol xs) := by
  cases x with
  | t z => cases e; exact rx
  | o k =>
    obtain ⟨q, eq, rfl⟩ := rx
    obtain ⟨so, es⟩ := sr.lt eq
    have ob := sr.ob k q so eq es
    simp only [vw, es, Option.map_some, Option.some.injEq] at e
    cases so with
    | frz z => simp only [SO.tree] at e; subst e; exact ob
    | lst z => simp only [SO.tree, reduceCtorEq] at e
    | dic z => simp only [SO.tree, reduceCtorEq] at e
abbrev HT (G : String → Option T) (call : String → List RV → Store → R RV) (fs : List String × List String × List String) (cond : E) (c' : Expr) : Prop := ∀ {Y : Cx} {W : WX} {F : Hp} {ι : List Addr} {σ : L2.St} {env : En} {S : Store} {H : Hp} {Q : Bool → Hp → Prop}, CtxOk Y G call fs → mE fs Y.N Y.env.scope Y.fn cond c' = true → Takes Y W →
    EnvR Y.K F ι σ env → SR Y.K F ι S H → Post Y.K Y.mg F ι (tst G call cond env S) (BP Q) (L2.WE W σ) → RTt Y c' σ H Q
abbrev HE (G : String → Option T) (call : String → List RV → Store → R RV) (fs : List String × List String × List String) (elt : E) (e' : Expr) : Prop := ∀ {Y : Cx} {W : WX} {F : Hp} {ι : List Addr} {σ : L2.St} {env : En} {S : Store} {H : Hp} {Q : VK}, CtxOk Y G call fs → mE fs Y.N Y.env.scope Y.fn elt e' = true → Takes Y W →
    EnvR Y.K F ι σ env → SR Y.K F ι S H → Post Y.K Y.mg F ι (ev G call elt env S) (VP Y.K Q) (L2.WE W σ) → RE Y e' σ H Q
abbrev HIt (X : Cx) (G : String → Option T) (call : String → List RV → Store → R RV) (it : PV.It) (tg' it' : Expr) : Prop := ∀ {W : WX} {F : Hp} {ι : List Addr} {σ : L2.St} {env : En} {S : Store} {H : Hp} {Q : L2.It → Hp → Prop}, Takes X W →
    EnvR X.K F ι σ env → SR X.K F ι S H → Post X.K X.mg F ι (evi G call it env S) (PP X.K Q) (L2.WE W σ) → RI X tg' it' σ H Q
/-- the tests of a comprehension -/
def mIf (fs : List String × List String × List String) (N : List Str) (sc scope : Scope) (cond : E) (ifs : List Expr) : Bool := match ifs with
        | [] => match cond with
          | .cst (.bl true) => true
          | _ => false
        | [c] => mE fs N (relS scope sc) (fun x => scope.names.lookup x == some .cell) cond c
        | _ => false
abbrev TtOk (X : Cx) (G : String → Option T) (call : String → List RV → Store → R RV) (cond : E) (tt : TT) : Prop := ∀ {F : Hp} {ι : List Addr} {σ : L2.St} {env : En} {S : Store} {H : Hp} {P : Bool → Hp → Prop}, EnvR X.K F ι σ env → SR X.K F ι S H →
          Post X.K X.mg F ι (tst G call cond env S) (BP P) (fun _ _ _ => False) → tt σ H P
theorem comp_tests {X : Cx} {G : String → Option T} {call : String → List RV → Store → R RV} {fs : List String × List String × List String} {scope : Scope} {own : List (Str × Nat)} {cond : E} {ifs : List Expr} (ok : CtxOk X G call fs) (bo : BlkOk X.N X.env.scope scope own)
    (hif : mIf fs X.N X.env.scope scope cond ifs = true) (hT : ∀ {c'}, HT G call fs cond c') : ∃ tt : TT, (∀ (s : Shared) (H : Hp) (C : Addr) (cl : List (Str × Addr)) (fp : List Addr), PTs (X.blk s H scope (compEnvC scope cl C X.env) fp) ifs tt) ∧ TtOk X G call cond tt := by
  unfold mIf at hif
  split at hif
  · split at hif
    · refine ⟨tYes, fun _ _ _ _ _ => pts_nil, fun {F ι σ env S H P} er sr p => ?_⟩
      unfold tst trB at p
      exact p F ι H Ext.refl sr
    · cases hif
  · rename_i c'
    refine ⟨bT X scope c', fun s H C cl fp => pts_one (bT_ok s H C cl fp), fun {F ι σ env S H P} er sr p s0 H0 C cl fp => ?_⟩
    exact hT (Y := X.blk s0 H0 scope (compEnvC scope cl C X.env) fp) (W := fun _ _ _ _ => False) (ok.blk bo.kind) hif takes0 er sr p
  · cases hif
theorem comp_core {X : Cx} {G : String → Option T} {call : String → List RV → Store → R RV} {fs : List String × List String × List String} {W : WX} {F : Hp} {ι : List Addr} {σ : L2.St} {env : En} {S : Store} {H : Hp} {Q : VK} {own : List Nat} {elt cond : E} {tg : Tg} {it : PV.It} {elt' tg' it' : Expr} {scope : Scope} {tt : TT}
    (ok : CtxOk X G call fs) (hb : blkC X.N X.env.scope scope (ownP X.N own) = true) (hin : tgIn own tg = true) (hown : (ownP X.N own).map (·.2) = own) (ht : mTg X.N (relS scope X.env.scope) (fun x => scope.names.lookup x == some .cell) tg tg' = true)
    (hI : HIt X G call it tg' it') (tt2 : TtOk X G call cond tt) (hE : HE G call fs elt elt') (hel : mE fs X.N (relS scope X.env.scope) (fun x => scope.names.lookup x == some .cell) elt elt' = true) (tk : Takes X W) (er : EnvR X.K F ι σ env) (sr : SR X.K F ι S H)
    (h : Post X.K X.mg F ι (ev G call (.comp own elt tg it cond) env S) (VP X.K Q) (L2.WE W σ)) : tLc (RI X tg' it') (bG X scope tg') tt (bE X scope elt') ((ownP X.N own).map (·.2)) σ H Q := by
  have bo := blkOk_by hb
  unfold ev at h
  rw [hown]
  refine hI tk er sr (h.step fun F1 ι1 S1 H1 pl ex s1 p1 J plr => ?_)
  intro D nD
  obtain ⟨s2, ex2⟩ := s1.pushL nD .nil
  refine ⟨fun i m H' => ∃ F' ι' S', Ext F1 F' (ι1 ++ [D]) ι' ∧ SR X.K F' ι' S' H' ∧ Post X.K X.mg F' ι' ((lcL pl.watch S1.length (fun x S => match bindT tg (.t x) (wipeE env own) S with
      | some env2 => noX (tst G call cond env2 S) fun k S2 => if k then noX (ev G call elt env2 S2) fun v S3 => .ok (some v) S3 else .ok none S2
      | none => .fail) (pl.items.drop i) S').bind fun _ S2 => .ok (.o S1.length) S2) (VP X.K Q) (L2.WE W σ) ∧ m = pl.items.length - i ∧ i ≤ pl.items.length, ⟨_, F1, ι1 ++ [D], _, Ext.refl, s2, p1.ext ex2, rfl, Nat.zero_le _⟩, ?_⟩
  rintro i m H' ⟨F', ι', S', ex', s', p', rfl, hle⟩
  have exAll := ex2.trans ex'
  by_cases hlt : i < pl.items.length
  · rw [List.drop_eq_getElem_cons hlt] at p'
    unfold lcL at p'
    split at p'
    · rename_i st
      refine .inr ⟨plr.go i F' ι' S' H' exAll s' st hlt, fun H2 => ∃ F' ι' S', Ext F1 F' (ι1 ++ [D]) ι' ∧ SR X.K F' ι' S' H2 ∧ Post X.K X.mg F' ι' ((lcL pl.watch S1.length (fun x S => match bindT tg (.t x) (wipeE env own) S with
          | some env2 => noX (tst G call cond env2 S) fun k S2 => if k then noX (ev G call elt env2 S2) fun v S3 => .ok (some v) S3 else .ok none S2
          | none => .fail) (pl.items.drop (i + 1)) S').bind fun _ S2 => .ok (.o S1.length) S2) (VP X.K Q) (L2.WE W σ), ?_, ?_⟩
      · rintro H2 ⟨F2, ι2, S2, q1, q2, q3⟩
        exact ⟨pl.items.length - (i + 1), by omega, F2, ι2, S2, q1, q2, q3, rfl, hlt⟩
      · intro v H2 hy
        obtain ⟨F2, x2, s2', z, hz, rz⟩ := plr.yld i F' ι' S' H' v H2 exAll s' st hlt hy
        have ez : pl.items[i] = z := by
          rw [List.getElem?_eq_getElem hlt] at hz
          exact Option.some.inj hz
        rw [ez] at p'
        have p'' := p'.ext x2
        have er2 : EnvR X.K F2 ι' (L2.wipe σ own) (wipeE env own) := ((er.mono ex).mono (exAll.trans x2)).wipe own
        cases eb : bindT tg (.t z) (wipeE env own) S' with
        | none =>
          rw [eb] at p''
          exact p''.elim
        | some env2 =>
          rw [eb] at p''
          simp only at p''
          intro s0 H0 C cl fp
          have okB : CtxOk (X.blk s0 H0 scope (compEnvC scope cl C X.env) fp) G call fs := ok.blk bo.kind
          refine tgB_ok okB ht hin s2' er2 rz eb fun σ' er' hw => ⟨hw, ?_⟩
          -- the test
          refine tt2 er' s2' ?_
          rw [noX_bind] at p''
          rw [noX_noX] at p''
          refine p''.stepN fun F3 ι3 S3 H3 k ex3 s3 p3 => ?_
          cases k with
          | false =>
            rw [if_neg Bool.false_ne_true] at p3
            refine iteF ?_
            exact ⟨F3, ι3, S3, (ex'.trans x2).trans ex3, s3, p3⟩
          | true =>
            rw [if_pos rfl] at p3
            refine iteT ?_
            rw [noX_noX] at p3
            intro s0 H0 C cl fp
            refine hE (Y := X.blk s0 H0 scope (compEnvC scope cl C X.env) fp) (W := fun _ _ _ _ => False) (ok.blk bo.kind) hel takes0 (er'.mono ex3) s3 (p3.stepN fun F4 ι4 S4 H4 y ex4 s4 p4 u ru => ?_)
            rw [noX_ok] at p4
            simp only at p4
            split at p4
            · rename_i t S5 ef
              obtain ⟨F5, x5, s5, r5⟩ := s4.fz ru ef
              have x15 := ((exAll.trans x2).trans ex3).trans (ex4.trans x5)
              have eD : ι4[S1.length]? = some D := ((((ex'.trans x2).trans ex3).trans (ex4.trans x5)).at_ (last_at s1))
              split at p4
              · rename_i acc es
                obtain ⟨hf, vs, hH, r⟩ := s5.ob _ D _ eD es
                split at p4
                · rename_i hz
                  refine ⟨vs, hH, by rw [r.length]; exact hz, F5, ι4, _, (((ex'.trans x2).trans ex3).trans (ex4.trans x5)), s5.writeL eD es (r.append (.cons r5 .nil)), ?_⟩
                  exact p4.ext x5
                · exact p4.elim
              · exact p4.elim
            · exact p4.elim
    · exact p'.elim
  · have e0 : i = pl.items.length := by omega
    subst e0
    rw [List.drop_length] at p'
    unfold lcL at p'
    split at p'
    · rename_i st
      refine .inl ⟨plr.stop F' ι' S' H' exAll s' st, p' F' ι' H' Ext.refl s' _ ⟨D, ex'.at_ (last_at s1), rfl⟩⟩
    · exact p'.elim

/-- a display's pairs, read -/
def trsOf (X : Cx) : List Str → List Expr → List (TE × TE)
  | k :: ks, e :: es => (L2.tC (.str k), RE X e) :: trsOf X ks es
  | _, _ => []
theorem pps_of {X : Cx} {pos : Pos} : ∀ {ks : List Str} {keys : List (Option Expr)} {values : List Expr}, mKs ks keys = true → ks.length = values.length → PPs X pos keys values (trsOf X ks values)
  | [], [], [], _, _ => pps_nil
  | k :: ks, some (.Constant (.str s) j q) :: r, e :: es, h, hl => by
    unfold mKs at h
    rw [Bool.and_eq_true, decide_eq_true_eq] at h
    obtain ⟨rfl, h⟩ := h
    exact pps_cons pe_str re (pps_of h (by simpa using hl))
  | [], [], _ :: _, _, hl => by simp at hl
  | _ :: _, _, [], _, hl => by simp at hl
  | [], _ :: _, _, h, _ => by simp [mKs] at h
  | _ :: _, [], _, h, _ => by simp [mKs] at h
  | _ :: _, none :: _, _, h, _ => by simp [mKs] at h
theorem mKs_all : ∀ {ks : List Str} {keys : List (Option Expr)}, mKs ks keys = true → keys.all (·.isSome) = true ∧ keys.length = ks.length
  | [], [], _ => ⟨rfl, rfl⟩
  | k :: ks, some (.Constant (.str s) j q) :: r, h => by
    unfold mKs at h
    rw [Bool.and_eq_true] at h
    obtain ⟨h1, h2⟩ := mKs_all h.2
    exact ⟨by simpa using h1, by simp [h2]⟩
theorem keys_eq : ∀ (ks : List Str) (us : List V), (ks.map V.str).zip us = ((ks.map Sum.inr : List Key).zip us).map fun kv => (kV kv.1, kv.2)
  | [], _ => rfl
  | _ :: _, [] => rfl
  | k :: ks, u :: us => by
    simp only [List.map_cons, List.zip_cons_cons]
    rw [keys_eq ks us]
    rfl
theorem zip_ok {K : PySem.W.Frag} {F : Hp} : ∀ (ks : List Str) {us : List V} {xs : List T}, RTs K F us xs → RTk K F ((ks.map Sum.inr : List Key).zip us) (keysT ks xs)
  | [], _, _, _ => .nil
  | k :: ks, [], [], .nil => .nil
  | k :: ks, u :: us, x :: xs, .cons h r => .cons h (zip_ok ks r)
mutual
theorem sndE : (p : E) → ∀ {X : Cx} {G : String → Option T} {call : String → List RV → Store → R RV} {fs : List String × List String × List String} {e : Expr} {W : WX} {F : Hp} {ι : List Addr} {σ : L2.St} {env : En} {S : Store} {H : Hp} {Q : VK}, CtxOk X G call fs → mE fs X.N X.env.scope X.fn p e = true → Takes X W →
    EnvR X.K F ι σ env → SR X.K F ι S H → Post X.K X.mg F ι (ev G call p env S) (VP X.K Q) (L2.WE W σ) → RE X e σ H Q
  | .var i, X, G, call, fs, e, W, F, ι, σ, env, S, H, Q, ok, hm, tk, er, sr, h => by
    unfold mE at hm
    split at hm
    · rename_i x p
      rw [Bool.and_eq_true, decide_eq_true_eq] at hm
      obtain ⟨v1, v2, v3⟩ := vis_of hm.2
      unfold ev at h
      split at h
      · rename_i v ev'
        obtain ⟨u, e1, r1⟩ := er.at_ _ _ ev'
        exact ⟨_, pe_var hm.1 v1 v2 v3, u, e1, h F ι H Ext.refl sr u (sr.nrm r1)⟩
      · exact h.elim
    · cases hm
  | .cst t, X, G, call, fs, e, W, F, ι, σ, env, S, H, Q, ok, hm, tk, er, sr, h => by
    have h' := h F ι H Ext.refl sr
    unfold mE at hm
    split at hm
    · split at hm
      · rw [decide_eq_true_eq] at hm
        subst hm
        exact ⟨_, pe_int, h' _ (.int _)⟩
      · rw [decide_eq_true_eq] at hm
        subst hm
        exact ⟨_, pe_str, h' _ (.str _)⟩
      · rw [beq_iff_eq] at hm
        subst hm
        exact ⟨_, pe_bl, h' _ (.bl _)⟩
      · exact ⟨_, pe_non, h' _ .non⟩
      · cases hm
    · cases hm
  | .glb x, X, G, call, fs, e, W, F, ι, σ, env, S, H, Q, ok, hm, tk, er, sr, h => by
    unfold mE at hm
    split at hm
    · rw [Bool.and_eq_true, decide_eq_true_eq] at hm
      obtain ⟨rfl, hm⟩ := hm
      obtain ⟨g1, g2⟩ := gl_of hm
      unfold ev at h
      split at h
      · rename_i y ey
        obtain ⟨u, v, e1, r1, r2⟩ := ok.glb _ _ ey
        exact ⟨_, pe_glob g1 e1 r1 g2, h F ι H Ext.refl sr v (r2 F)⟩
      · exact h.elim
    · cases hm
  | .op0 o, X, G, call, fs, e, W, F, ι, σ, env, S, H, Q, ok, hm, tk, er, sr, h => by
    unfold mE at hm
    unfold ev s0 at h
    split at hm
    · exact ⟨_, pe_lst pa_nil, Nat.zero_le _, fin_l sr h .nil⟩
    · exact ⟨_, pe_dnewK, fun q n => h F (ι ++ [q]) _ (sr.pushD n .nil).2 (sr.pushD n .nil).1 _ ⟨q, last_at sr, rfl⟩⟩
    · cases hm
  | .op1 o a, X, G, call, fs, e, W, F, ι, σ, env, S, H, Q, ok, hm, tk, er, sr, h => by
    unfold mE at hm
    unfold ev at h
    split at hm
    · rename_i a' ea
      rw [Bool.and_eq_true] at hm
      obtain ⟨ho, hm⟩ := hm
      exact op1_snd (W := L2.WE W σ) ok o ho ea (sndE a ok hm tk er sr (h.step fun F1 ι1 S1 H1 x ex s1 p u ru => ⟨F1, ι1, S1, x, s1, ru, p⟩))
    · cases hm
  | .op2 o a b, X, G, call, fs, e, W, F, ι, σ, env, S, H, Q, ok, hm, tk, er, sr, h => by
    unfold mE at hm
    unfold ev at h
    split at hm
    · rename_i a' b' ea
      rw [Bool.and_eq_true] at hm
      refine op2_snd (W := L2.WE W σ) ok o ea (sndE a ok hm.1 tk er sr (h.step fun F1 ι1 S1 H1 x ex s1 p u ru => ?_))
      split at p
      · rename_i hp
        exact ⟨⟨F1, ι1, S1, x, s1, ru, hp⟩, sndE b ok hm.2 tk (er.mono ex) s1 (p.step fun F2 ι2 S2 H2 y ex2 s2 p2 w rw' => ⟨F2, ι2, S2, x, y, s2, ru.mono ex2, rw', p2⟩)⟩
      · exact p.elim
    · cases hm
  | .op3 o a b c, X, G, call, fs, e, W, F, ι, σ, env, S, H, Q, ok, hm, tk, er, sr, h => by
    unfold mE at hm
    unfold ev at h
    split at hm
    · rename_i a' b' c' ea
      rw [Bool.and_eq_true, Bool.and_eq_true] at hm
      refine op3_snd (W := L2.WE W σ) ok o ea (sndE a ok hm.1.1 tk er sr (h.step fun F1 ι1 S1 H1 x ex s1 p u ru => ?_))
      split at p
      · rename_i hp
        refine ⟨⟨F1, ι1, S1, x, s1, ru, hp⟩, sndE b ok hm.1.2 tk (er.mono ex) s1 (p.step fun F2 ι2 S2 H2 y ex2 s2 p2 w rw' => ?_)⟩
        split at p2
        · rename_i hp2
          exact ⟨⟨F2, ι2, S2, y, s2, rw', hp2⟩, sndE c ok hm.2 tk ((er.mono ex).mono ex2) s2 (p2.step fun F3 ι3 S3 H3 z ex3 s3 p3 t rt' => ⟨F3, ι3, S3, x, y, z, s3, (ru.mono ex2).mono ex3, rw'.mono ex3, rt', p3⟩)⟩
        · exact p2.elim
      · exact p.elim
    · cases hm
  | .and a b, X, G, call, fs, e, W, F, ι, σ, env, S, H, Q, ok, hm, tk, er, sr, h => by
    unfold mE at hm
    unfold ev at h
    split at hm
    · rename_i x y r p
      rw [Bool.and_eq_true] at hm
      have tail : ∀ {F ι S H}, EnvR X.K F ι σ env → SR X.K F ι S H → Post X.K X.mg F ι (ev G call b env S) (VP X.K Q) (L2.WE W σ) → RE X (.BoolOp .And (y :: r) p) σ H Q := fun {F ι S H} er sr hh => by
        have hm2 := hm.2
        split at hm2
        · obtain ⟨t, q1, q2⟩ := sndE b ok hm2 tk er sr hh
          exact ⟨t, pe_one q1, q2⟩
        · exact sndE b ok hm2 tk er sr hh
      refine ⟨_, pe_and re re, sndE a ok hm.1 tk er sr (h.step fun F1 ι1 S1 H1 v ex s1 p1 u ru => ?_)⟩
      obtain ⟨k, rfl, p2⟩ := asB_ok s1 ru (P := fun F ι S H k => Post X.K X.mg F ι (if k then ev G call b env S else ret (.bl false) S) (VP X.K Q) (L2.WE W σ)) (p1.step fun _ _ _ _ _ _ _ z => z)
      refine ⟨k, rfl, ?_⟩
      cases k with
      | true => exact tail (er.mono ex) s1 p2
      | false => exact fin_t s1 p2 (.bl _)
    · cases hm
  | .or a b, X, G, call, fs, e, W, F, ι, σ, env, S, H, Q, ok, hm, tk, er, sr, h => by
    unfold mE at hm
    unfold ev at h
    split at hm
    · rename_i x y r p
      rw [Bool.and_eq_true] at hm
      have tail : ∀ {F ι S H}, EnvR X.K F ι σ env → SR X.K F ι S H → Post X.K X.mg F ι (ev G call b env S) (VP X.K Q) (L2.WE W σ) → RE X (.BoolOp .Or (y :: r) p) σ H Q := fun {F ι S H} er sr hh => by
        have hm2 := hm.2
        split at hm2
        · obtain ⟨t, q1, q2⟩ := sndE b ok hm2 tk er sr hh
          exact ⟨t, pe_one q1, q2⟩
        · exact sndE b ok hm2 tk er sr hh
      refine ⟨_, pe_or re re, sndE a ok hm.1 tk er sr (h.step fun F1 ι1 S1 H1 v ex s1 p1 u ru => ?_)⟩
      obtain ⟨k, rfl, p2⟩ := asB_ok s1 ru (P := fun F ι S H k => Post X.K X.mg F ι (if k then ret (.bl true) S else ev G call b env S) (VP X.K Q) (L2.WE W σ)) (p1.step fun _ _ _ _ _ _ _ z => z)
      refine ⟨k, rfl, ?_⟩
      cases k with
      | false => exact tail (er.mono ex) s1 p2
      | true => exact fin_t s1 p2 (.bl _)
    · cases hm
  | .not a, X, G, call, fs, e, W, F, ι, σ, env, S, H, Q, ok, hm, tk, er, sr, h => by
    unfold mE at hm
    unfold ev at h
    split at hm
    · refine ⟨_, pe_notT re, sndE a ok hm tk er sr (h.step fun F1 ι1 S1 H1 v ex s1 p1 u ru => ?_)⟩
      obtain ⟨k, q1, p2⟩ := tr_ok s1 ru (P := fun F ι S H k => Post X.K X.mg F ι (ret (.bl (!k)) S) (VP X.K Q) (L2.WE W σ)) (p1.step fun _ _ _ _ _ _ _ z => z)
      exact ⟨k, q1, fin_t s1 p2 (.bl _)⟩
    · cases hm
  | .ite c a b, X, G, call, fs, e, W, F, ι, σ, env, S, H, Q, ok, hm, tk, er, sr, h => by
    unfold mE at hm
    unfold ev at h
    split at hm
    · rw [Bool.and_eq_true, Bool.and_eq_true] at hm
      refine ⟨_, pe_ifExp rt re re, sndT c ok hm.1.1 tk er sr (h.step fun F1 ι1 S1 H1 k ex s1 p1 => ?_)⟩
      cases k with
      | true => exact sndE a ok hm.1.2 tk (er.mono ex) s1 p1
      | false => exact sndE b ok hm.2 tk (er.mono ex) s1 p1
    · cases hm
  | .chain o p a b c, X, G, call, fs, e, W, F, ι, σ, env, S, H, Q, ok, hm, tk, er, sr, h => by
    unfold mE at hm
    unfold ev at h
    split at hm
    · rename_i a' o' p' b' c' pos
      simp only [Bool.and_eq_true, decide_eq_true_eq] at hm
      obtain ⟨⟨⟨⟨⟨ho, hp⟩, hs⟩, ha⟩, hb⟩, hc⟩ := hm
      refine ⟨_, pe_chain br br re re re (marks_plain hs _), sndE a ok ha tk er sr (h.step fun F1 ι1 S1 H1 x ex s1 p1 u ru => sndE b ok hb tk (er.mono ex) s1 (p1.step fun F2 ι2 S2 H2 y ex2 s2 p2 w rw' => ?_))⟩
      refine cmpR ok o ho ⟨F2, ι2, S2, x, y, s2, ru.mono ex2, rw', p2.step fun F3 ι3 S3 H3 z ex3 s3 p3 t rt' => ?_⟩
      obtain ⟨k, rfl, p4⟩ := asB_ok s3 rt' (P := fun F ι S H k => Post X.K X.mg F ι (if k then (ev G call c env S).bind fun w S5 => PV.s2 p y w S5 else ret (.bl false) S) (VP X.K Q) (L2.WE W σ)) (p3.step fun _ _ _ _ _ _ _ z => z)
      refine ⟨k, rfl, ?_⟩
      cases k with
      | true => exact sndE c ok hc tk (((er.mono ex).mono ex2).mono ex3) s3 (p4.step fun F5 ι5 S5 H5 z5 ex5 s5 p5 t5 rt5 => cmpR ok p hp ⟨F5, ι5, S5, y, z5, s5, (rw'.mono ex3).mono ex5, rt5, p5⟩)
      | false => exact fin_t s3 p4 (.bl _)
    · cases hm
  | .call f as, X, G, call, fs, e, W, F, ι, σ, env, S, H, Q, ok, hm, tk, er, sr, h => by
    unfold mE at hm
    unfold ev at h
    split at hm
    · rename_i x p es pos
      simp only [Bool.and_eq_true, decide_eq_true_eq] at hm
      obtain ⟨⟨⟨rfl, hg⟩, hf⟩, ha⟩ := hm
      obtain ⟨g1, g2⟩ := gl_of hg
      obtain ⟨a, fd, ps, k, m1, m2, m3, m4, m5⟩ := ok.fns f (by simpa using hf)
      have key := sndA as ok ha tk er sr (Q := fun vs H1 => spC X.K X.mg call f vs H1 Q (L2.WE W σ)) (h.step fun F1 ι1 S1 H1 vs ex s1 p1 us rs => ⟨F1, ι1, S1, vs, s1, rs, p1⟩)
      cases es with
      | nil =>
        refine ⟨_, pe_call0S m5 m3 g1 m1 m2 m4 (passAt tk) g2, ?_⟩
        cases as with
        | nil =>
          unfold evs at h
          exact ⟨F, ι, S, [], sr, trivial, h⟩
        | cons a r => simp [mEs] at ha
      | cons e0 es =>
        have hn : notStar e0 = true ∧ es.all notStar = true := by
          cases as with
          | nil => simp [mEs] at ha
          | cons a r =>
            simp only [mEs, Bool.and_eq_true] at ha
            exact ⟨ha.1.1, (sndN r ha.2)⟩
        exact ⟨_, pe_callS m5 m3 g1 m1 m2 m4 (passAt tk) ra g2 (star1 hn.1 _) (star_plain hn.2 _ _), key⟩
    · cases hm
  | .tup as, X, G, call, fs, e, W, F, ι, σ, env, S, H, Q, ok, hm, tk, er, sr, h => by
    unfold mE at hm
    unfold ev at h
    split at hm
    · refine ⟨_, pe_tup ra, sndA as ok hm tk er sr (h.step fun F1 ι1 S1 H1 vs ex s1 p1 us rs => ?_)⟩
      split at p1
      · rename_i xs S2 ef
        obtain ⟨F2, x2, s2, r2⟩ := SR.fzs s1 s1 rs ef
        split at p1
        · rename_i hz
          exact ⟨by rw [r2.length]; exact hz, fin_tup s2 (p1.ext x2) r2⟩
        · exact p1.elim
      · exact p1.elim
    · cases hm
  | .lst as, X, G, call, fs, e, W, F, ι, σ, env, S, H, Q, ok, hm, tk, er, sr, h => by
    unfold mE at hm
    unfold ev at h
    split at hm
    · refine ⟨_, pe_lst ra, sndA as ok hm tk er sr (h.step fun F1 ι1 S1 H1 vs ex s1 p1 us rs => ?_)⟩
      split at p1
      · rename_i xs S2 ef
        obtain ⟨F2, x2, s2, r2⟩ := SR.fzs s1 s1 rs ef
        split at p1
        · rename_i hz
          exact ⟨by rw [r2.length]; exact hz, fin_l s2 (p1.ext x2) r2⟩
        · exact p1.elim
      · exact p1.elim
    · cases hm
  | .dct ks as, X, G, call, fs, e, W, F, ι, σ, env, S, H, Q, ok, hm, tk, er, sr, h => by
    unfold mE at hm
    unfold ev at h
    split at hm
    · rename_i keys values pos
      simp only [Bool.and_eq_true, decide_eq_true_eq] at hm
      obtain ⟨⟨⟨⟨hk, hv⟩, hn⟩, hl⟩, h15⟩ := hm
      obtain ⟨k1, k2⟩ := mKs_all hk
      refine ⟨_, pe_disp (pps_of hk hl) k1 (by rw [k2, hl]) (by intro e0; rw [e0] at k2; cases ks with | nil => simp at hn | cons _ _ => simp at k2) (by rw [k2]; exact h15), fun p n => ?_⟩
      obtain ⟨sx, exx⟩ := sr.pushD n .nil
      refine sndP as hl ok hv tk (er.mono exx) sx ((h.ext exx).step fun F1 ι1 S1 H1 rs ex s1 p1 us rus => ?_)
      split at p1
      · rename_i hlr
        split at p1
        · rename_i xs S2 ef
          obtain ⟨F2, x2, s2, r2⟩ := SR.fzs s1 s1 rus ef
          have ep : ι1[S.length]? = some p := ex.at_ (last_at sr)
          split at p1
          · rename_i es
            obtain ⟨hf, ws, hH, rw'⟩ := s2.ob _ p _ ep es
            cases rw'
            refine ⟨hH, (ks.map Sum.inr).zip us, keys_eq ks us, by rw [List.length_zip, List.length_map]; omega, ?_⟩
            exact p1 F2 ι1 _ x2 (s2.writeD ep es (merge_ok (zip_ok ks r2) .nil)) _ ⟨p, ep, rfl⟩
          · exact p1.elim
        · exact p1.elim
      · exact p1.elim
    · cases hm
  | .comp own elt tg it cond, X, G, call, fs, e, W, F, ι, σ, env, S, H, Q, ok, hm, tk, er, sr, h => by
    unfold mE at hm
    split at hm
    · rename_i elt' tg' it' ifs scope pos
      simp only [Bool.and_eq_true, decide_eq_true_eq] at hm
      obtain ⟨⟨⟨⟨⟨⟨hb, hin⟩, hown⟩, ht⟩, hi⟩, hif⟩, hel⟩ := hm
      have hif : mIf fs X.N X.env.scope scope cond ifs = true := hif
      exact ⟨_, pe_lc (g := bG X scope tg') ok.calm ok.nd ri (blkOk_by hb) bG_ok (comp_tests ok (blkOk_by hb) hif (fun {c0 Y W F ι σ env S H Q} okY hmY tkY erY srY p => sndT cond okY hmY tkY erY srY p)).choose_spec.1 bE_ok (set_plain (sndIs it hi) _),
        comp_core ok hb hin hown ht (fun {W F ι σ env S H Q} tk er sr p => sndI it ok hi tk er sr p) (comp_tests ok (blkOk_by hb) hif (fun {c0 Y W F ι σ env S H Q} okY hmY tkY erY srY p => sndT cond okY hmY tkY erY srY p)).choose_spec.2
          (fun {Y W F ι σ env S H Q} okY hmY tkY erY srY p => sndE elt okY hmY tkY erY srY p) hel tk er sr h⟩
    · cases hm
termination_by p => (sizeOf p, 0)
theorem sndA : (p : Es) → ∀ {X : Cx} {G : String → Option T} {call : String → List RV → Store → R RV} {fs : List String × List String × List String} {es : List Expr} {W : WX} {F : Hp} {ι : List Addr} {σ : L2.St} {env : En} {S : Store} {H : Hp} {Q : List V → Hp → Prop}, CtxOk X G call fs → mEs fs X.N X.env.scope X.fn p es = true → Takes X W →
    EnvR X.K F ι σ env → SR X.K F ι S H → Post X.K X.mg F ι (evs G call p env S) (LP X.K Q) (L2.WE W σ) → RA X es σ H Q
  | .nil, X, G, call, fs, es, W, F, ι, σ, env, S, H, Q, ok, hm, tk, er, sr, h => by
    unfold mEs at hm
    split at hm
    · exact ⟨_, pa_nil, h F ι H Ext.refl sr [] trivial⟩
    · cases hm
  | .cons a r, X, G, call, fs, es, W, F, ι, σ, env, S, H, Q, ok, hm, tk, er, sr, h => by
    unfold mEs at hm
    unfold evs at h
    split at hm
    · rename_i e es
      rw [Bool.and_eq_true, Bool.and_eq_true] at hm
      refine ⟨_, pa_cons re ra (star1 hm.1.1 _), sndE a ok hm.1.2 tk er sr (h.step fun F1 ι1 S1 H1 x ex s1 p u ru => sndA r ok hm.2 tk (er.mono ex) s1 (p.step fun F2 ι2 S2 H2 xs ex2 s2 p2 us rus => ?_))⟩
      exact p2 F2 ι2 H2 Ext.refl s2 (u :: us) ⟨ru.mono ex2, rus⟩
    · cases hm
termination_by p => (sizeOf p, 0)
theorem sndP : (p : Es) → ∀ {X : Cx} {G : String → Option T} {call : String → List RV → Store → R RV} {fs : List String × List String × List String} {es : List Expr} {ks : List Str} {W : WX} {F : Hp} {ι : List Addr} {σ : L2.St} {env : En} {S : Store} {H : Hp} {Q : List (V × V) → Hp → Prop}, ks.length = es.length → CtxOk X G call fs → mEs fs X.N X.env.scope X.fn p es = true → Takes X W →
    EnvR X.K F ι σ env → SR X.K F ι S H → Post X.K X.mg F ι (evs G call p env S) (LP X.K fun vs H' => Q ((ks.map V.str).zip vs) H') (L2.WE W σ) → tPairs (trsOf X ks es) σ H Q
  | .nil, X, G, call, fs, es, ks, W, F, ι, σ, env, S, H, Q, hl, ok, hm, tk, er, sr, h => by
    unfold mEs at hm
    split at hm
    · cases ks with
      | nil => exact h F ι H Ext.refl sr [] trivial
      | cons _ _ => simp at hl
    · cases hm
  | .cons a r, X, G, call, fs, es, ks, W, F, ι, σ, env, S, H, Q, hl, ok, hm, tk, er, sr, h => by
    unfold mEs at hm
    unfold evs at h
    split at hm
    · rename_i e es
      rw [Bool.and_eq_true, Bool.and_eq_true] at hm
      cases ks with
      | nil => simp at hl
      | cons k ks =>
        show RE X e σ H fun y H2 => tPairs (trsOf X ks es) σ H2 fun ps H3 => Q ((.str k, y) :: ps) H3
        exact sndE a ok hm.1.2 tk er sr (h.step fun F1 ι1 S1 H1 x ex s1 p u ru => sndP r (by simpa using hl) ok hm.2 tk (er.mono ex) s1 (p.step fun F2 ι2 S2 H2 xs ex2 s2 p2 us rus => p2 F2 ι2 H2 Ext.refl s2 (u :: us) ⟨ru.mono ex2, rus⟩))
    · cases hm
termination_by p => (sizeOf p, 0)
theorem sndN : (p : Es) → ∀ {fs : List String × List String × List String} {N : List Str} {sc : Scope} {fn : Str → Bool} {es : List Expr}, mEs fs N sc fn p es = true → es.all notStar = true
  | .nil, fs, N, sc, fn, es, hm => by
    unfold mEs at hm
    split at hm
    · rfl
    · cases hm
  | .cons a r, fs, N, sc, fn, es, hm => by
    unfold mEs at hm
    split at hm
    · rw [Bool.and_eq_true, Bool.and_eq_true] at hm
      rw [List.all_cons, hm.1.1, sndN r hm.2]
      rfl
    · cases hm
termination_by p => (sizeOf p, 0)
theorem sndT : (p : E) → ∀ {X : Cx} {G : String → Option T} {call : String → List RV → Store → R RV} {fs : List String × List String × List String} {e : Expr} {W : WX} {F : Hp} {ι : List Addr} {σ : L2.St} {env : En} {S : Store} {H : Hp} {Q : Bool → Hp → Prop}, CtxOk X G call fs → mE fs X.N X.env.scope X.fn p e = true → Takes X W →
    EnvR X.K F ι σ env → SR X.K F ι S H → Post X.K X.mg F ι (tst G call p env S) (BP Q) (L2.WE W σ) → RTt X e σ H Q
  | .and a b, X, G, call, fs, e, W, F, ι, σ, env, S, H, Q, ok, hm, tk, er, sr, h => by
    unfold mE at hm
    unfold tst at h
    split at hm
    · rename_i x y r p
      rw [Bool.and_eq_true] at hm
      have tail : ∀ {F ι S H}, EnvR X.K F ι σ env → SR X.K F ι S H → Post X.K X.mg F ι (tst G call b env S) (BP Q) (L2.WE W σ) → RW X (.BoolOp .And (y :: r) p) σ H Q := fun {F ι S H} er sr hh => by
        have hm2 := hm.2
        split at hm2
        · obtain ⟨t, q1, q2⟩ := sndT b ok hm2 tk er sr hh
          exact ⟨t, pw_and1 q1, q2⟩
        · obtain ⟨t, q1, q2⟩ := sndT b ok hm2 tk er sr hh
          exact ⟨t, pw_of_and q1, q2⟩
      refine ⟨_, (pw_and rt rw).pt, sndT a ok hm.1 tk er sr (h.step fun F1 ι1 S1 H1 k ex s1 p1 => ?_)⟩
      cases k with
      | true => exact iteT (tail (er.mono ex) s1 p1)
      | false => exact iteF (p1 F1 ι1 H1 Ext.refl s1)
    · cases hm
  | .or a b, X, G, call, fs, e, W, F, ι, σ, env, S, H, Q, ok, hm, tk, er, sr, h => by
    unfold mE at hm
    unfold tst at h
    split at hm
    · rename_i x y r p
      rw [Bool.and_eq_true] at hm
      have tail : ∀ {F ι S H}, EnvR X.K F ι σ env → SR X.K F ι S H → Post X.K X.mg F ι (tst G call b env S) (BP Q) (L2.WE W σ) → RW X (.BoolOp .Or (y :: r) p) σ H Q := fun {F ι S H} er sr hh => by
        have hm2 := hm.2
        split at hm2
        · obtain ⟨t, q1, q2⟩ := sndT b ok hm2 tk er sr hh
          exact ⟨t, pw_or1 q1, q2⟩
        · obtain ⟨t, q1, q2⟩ := sndT b ok hm2 tk er sr hh
          exact ⟨t, pw_of_or q1, q2⟩
      refine ⟨_, (pw_or rt rw).pt, sndT a ok hm.1 tk er sr (h.step fun F1 ι1 S1 H1 k ex s1 p1 => ?_)⟩
      cases k with
      | true => exact iteT (p1 F1 ι1 H1 Ext.refl s1)
      | false => exact iteF (tail (er.mono ex) s1 p1)
    · cases hm
  | .not a, X, G, call, fs, e, W, F, ι, σ, env, S, H, Q, ok, hm, tk, er, sr, h => by
    unfold mE at hm
    unfold tst at h
    split at hm
    · exact ⟨_, pt_not rt, sndT a ok hm tk er sr (h.step fun F1 ι1 S1 H1 k ex s1 p1 => p1 F1 ι1 H1 Ext.refl s1)⟩
    · cases hm
  | .op2 o a b, X, G, call, fs, e, W, F, ι, σ, env, S, H, Q, ok, hm, tk, er, sr, h => by
    unfold tst at h
    by_cases hc : isCmp o = true
    · unfold mE at hm
      split at hm
      · rename_i a' b' ea
        rw [Bool.and_eq_true] at hm
        obtain ⟨op, ho, he⟩ := cmp_of hc ea
        obtain ⟨pos, hs, rfl⟩ := he
        refine ⟨_, pt_cmpR br re re (marks_plain hs _), sndE a ok hm.1 tk er sr (h.step fun F1 ι1 S1 H1 x ex s1 p u ru => ?_)⟩
        split at p
        · refine sndE b ok hm.2 tk (er.mono ex) s1 (p.step fun F2 ι2 S2 H2 y ex2 s2 p2 w rw' => ?_)
          refine cmpR (W := L2.WE W σ) ok o ho ⟨F2, ι2, S2, x, y, s2, ru.mono ex2, rw', p2.step fun F3 ι3 S3 H3 z ex3 s3 p3 t rt' => ?_⟩
          exact asB_ok s3 rt' p3
        · exact p.elim
      · cases hm
    · have hp := plain_op2 hc hm
      have h : Post X.K X.mg F ι (tst G call (.op2 o a b) env S) (BP Q) (L2.WE W σ) := by unfold tst; exact h
      rw [tst_op2 hc] at h
      exact ⟨_, pt_truth re (true_plain hp _), sndE (.op2 o a b) ok hm tk er sr (h.step fun F1 ι1 S1 H1 v ex s1 p u ru => tr_ok s1 ru p)⟩
  | .chain o p a b c, X, G, call, fs, e, W, F, ι, σ, env, S, H, Q, ok, hm, tk, er, sr, h => by
    unfold mE at hm
    unfold tst at h
    split at hm
    · rename_i a' o' p' b' c' pos
      simp only [Bool.and_eq_true, decide_eq_true_eq] at hm
      obtain ⟨⟨⟨⟨⟨ho, hp⟩, hs⟩, ha⟩, hb⟩, hc⟩ := hm
      refine ⟨_, pt_chain br br re re re (marks_plain hs _), sndE a ok ha tk er sr (h.step fun F1 ι1 S1 H1 x ex s1 p1 u ru => sndE b ok hb tk (er.mono ex) s1 (p1.step fun F2 ι2 S2 H2 y ex2 s2 p2 w rw' => ?_))⟩
      refine cmpR (W := L2.WE W σ) ok o ho ⟨F2, ι2, S2, x, y, s2, ru.mono ex2, rw', p2.step fun F3 ι3 S3 H3 z ex3 s3 p3 t rt' => ?_⟩
      obtain ⟨k, rfl, p4⟩ := asB_ok s3 rt' (P := fun F ι S H k => Post X.K X.mg F ι (if k then (ev G call c env S).bind fun w S5 => (PV.s2 p y w S5).bind fun r S6 => asB r S6 else .ok false S) (BP Q) (L2.WE W σ)) (p3.step fun _ _ _ _ _ _ _ z => z)
      refine ⟨k, rfl, ?_⟩
      cases k with
      | true => exact iteT (sndE c ok hc tk (((er.mono ex).mono ex2).mono ex3) s3 (p4.step fun F5 ι5 S5 H5 z5 ex5 s5 p5 t5 rt5 => cmpR (W := L2.WE W σ) ok p hp ⟨F5, ι5, S5, y, z5, s5, (rw'.mono ex3).mono ex5, rt5, p5.step fun F6 ι6 S6 H6 z6 ex6 s6 p6 t6 rt6 => asB_ok s6 rt6 p6⟩))
      | false => exact iteF ⟨_, rfl, p4 F3 ι3 H3 Ext.refl s3⟩
    · cases hm
  | .var i, X, G, call, fs, e, W, F, ι, σ, env, S, H, Q, ok, hm, tk, er, sr, h => by
    rw [tst_var] at h
    exact ⟨_, pt_truth re (true_plain (plain_var hm) _), sndE (.var i) ok hm tk er sr (h.step fun F1 ι1 S1 H1 v ex s1 p u ru => tr_ok s1 ru p)⟩
  | .cst x, X, G, call, fs, e, W, F, ι, σ, env, S, H, Q, ok, hm, tk, er, sr, h => by
    rw [tst_cst] at h
    exact ⟨_, pt_truth re (true_plain (plain_cst hm) _), sndE (.cst x) ok hm tk er sr (h.step fun F1 ι1 S1 H1 v ex s1 p u ru => tr_ok s1 ru p)⟩
  | .op1 o a, X, G, call, fs, e, W, F, ι, σ, env, S, H, Q, ok, hm, tk, er, sr, h => by
    rw [tst_op1] at h
    exact ⟨_, pt_truth re (true_plain (plain_op1 hm) _), sndE (.op1 o a) ok hm tk er sr (h.step fun F1 ι1 S1 H1 v ex s1 p u ru => tr_ok s1 ru p)⟩
  | .call f as, X, G, call, fs, e, W, F, ι, σ, env, S, H, Q, ok, hm, tk, er, sr, h => by
    rw [tst_call] at h
    exact ⟨_, pt_truth re (true_plain (plain_call hm) _), sndE (.call f as) ok hm tk er sr (h.step fun F1 ι1 S1 H1 v ex s1 p u ru => tr_ok s1 ru p)⟩
  | .glb _, X, G, call, fs, e, W, F, ι, σ, env, S, H, Q, ok, hm, tk, er, sr, h => by unfold tst at h; exact h.elim
  | .op0 _, X, G, call, fs, e, W, F, ι, σ, env, S, H, Q, ok, hm, tk, er, sr, h => by unfold tst at h; exact h.elim
  | .op3 _ _ _ _, X, G, call, fs, e, W, F, ι, σ, env, S, H, Q, ok, hm, tk, er, sr, h => by unfold tst at h; exact h.elim
  | .ite _ _ _, X, G, call, fs, e, W, F, ι, σ, env, S, H, Q, ok, hm, tk, er, sr, h => by unfold tst at h; exact h.elim
  | .tup _, X, G, call, fs, e, W, F, ι, σ, env, S, H, Q, ok, hm, tk, er, sr, h => by unfold tst at h; exact h.elim
  | .lst _, X, G, call, fs, e, W, F, ι, σ, env, S, H, Q, ok, hm, tk, er, sr, h => by unfold tst at h; exact h.elim
  | .dct _ _, X, G, call, fs, e, W, F, ι, σ, env, S, H, Q, ok, hm, tk, er, sr, h => by unfold tst at h; exact h.elim
  | .comp _ _ _ _ _, X, G, call, fs, e, W, F, ι, σ, env, S, H, Q, ok, hm, tk, er, sr, h => by unfold tst at h; exact h.elim
termination_by p => (sizeOf p, 1)
theorem sndI : (p : PV.It) → ∀ {X : Cx} {G : String → Option T} {call : String → List RV → Store → R RV} {fs : List String × List String × List String} {tg e : Expr} {W : WX} {F : Hp} {ι : List Addr} {σ : L2.St} {env : En} {S : Store} {H : Hp} {Q : L2.It → Hp → Prop}, CtxOk X G call fs → mI fs X.N X.env.scope X.fn tg p e = true → Takes X W →
    EnvR X.K F ι σ env → SR X.K F ι S H → Post X.K X.mg F ι (evi G call p env S) (PP X.K Q) (L2.WE W σ) → RI X tg e σ H Q
  | .one o a, X, G, call, fs, tg, e, W, F, ι, σ, env, S, H, Q, ok, hm, tk, er, sr, h => by
    unfold mI at hm
    unfold evi at h
    rw [Bool.and_eq_true] at hm
    obtain ⟨_, hm⟩ := hm
    cases o with
    | val =>
      simp only at hm
      refine ⟨_, pi_any re, sndE a ok hm tk er sr (h.step fun F1 ι1 S1 H1 v ex s1 p u ru => ?_)⟩
      unfold w1 at p
      simp only at p
      split at p
      · rename_i xs e1
        obtain ⟨q, vs, rfl, hp, r⟩ := s1.now ru e1
        exact .inl ⟨q, rfl, ⟨vs, SqL.of hp⟩, p F1 ι1 H1 Ext.refl s1 _ (plan_list s1 ru e1)⟩
      · rename_i xs e1
        have rt := tup_now s1 ru e1
        obtain ⟨q, vs, rfl, hp, r⟩ := s1.now ru e1
        cases rt with
        | tup h0 r0 => exact .inr (.inl ⟨q, rfl, ⟨vs, hp⟩, p F1 ι1 H1 Ext.refl s1 _ (plan_tup h0 r0)⟩)
      · rename_i xs e1
        have rt := rol_now s1 ru e1
        obtain ⟨q, vs, rfl, hp, r⟩ := s1.now ru e1
        cases rt with
        | rol h0 r0 => exact .inl ⟨q, rfl, ⟨vs, hp⟩, p F1 ι1 H1 Ext.refl s1 _ (plan_rol h0 r0)⟩
      · rename_i s e1
        exact .inr (.inr ⟨s, s1.now ru e1, p F1 ι1 H1 Ext.refl s1 _ plan_str⟩)
      · exact p.elim
    | range =>
      simp only at hm
      split at hm
      · rename_i a' ea
        unfold bi1 at ea
        split at ea
        · split at ea
          · rename_i hx
            obtain ⟨rfl, h1, h2⟩ := hx
            cases ea
            obtain ⟨g1, g2⟩ := gl_of h1
            refine ⟨_, pi_range1 g1 (ok.bi "range" (by decide)) (pa_cons re pa_nil (star1 h2 _)) (star1 h2 _), sndE a ok hm tk er sr (h.step fun F1 ι1 S1 H1 v ex s1 p u ru => ?_)⟩
            unfold w1 at p
            simp only at p
            split at p
            · split at p
              · rename_i j hj
                exact ⟨j, by rw [RT.int_inv ru], hj.1, hj.2, p F1 ι1 H1 Ext.refl s1 _ plan_range⟩
              · exact p.elim
            · exact p.elim
          · cases ea
        · cases ea
      · cases hm
    | enum =>
      simp only at hm
      rw [Bool.and_eq_true] at hm
      obtain ⟨ht, hm⟩ := hm
      split at hm
      · rename_i a' ea
        unfold bi1 at ea
        split at ea
        · split at ea
          · rename_i hx
            obtain ⟨rfl, h1, h2⟩ := hx
            cases ea
            obtain ⟨g1, g2⟩ := gl_of h1
            unfold isTupE at ht
            split at ht
            · refine ⟨_, pi_enum g1 (ok.bi "enumerate" (by decide)) (pa_cons re pa_nil (star1 h2 _)) (star1 h2 _), sndE a ok hm tk er sr (h.step fun F1 ι1 S1 H1 v ex s1 p u ru => ?_)⟩
              unfold w1 at p
              simp only at p
              split at p
              · rename_i xs e1
                obtain ⟨q, vs, rfl, hp, r⟩ := s1.now ru e1
                exact ⟨q, vs, rfl, SqL.of hp, p F1 ι1 H1 Ext.refl s1 _ (plan_enum s1 ru e1)⟩
              · exact p.elim
            · cases ht
          · cases ea
        · cases ea
      · cases hm
    | rev =>
      simp only at hm
      split at hm
      · rename_i a' ea
        unfold bi1 at ea
        split at ea
        · split at ea
          · rename_i hx
            obtain ⟨rfl, h1, h2⟩ := hx
            cases ea
            obtain ⟨g1, g2⟩ := gl_of h1
            refine ⟨_, pi_reversed g1 (ok.bi "reversed" (by decide)) (pa_cons re pa_nil (star1 h2 _)) (star1 h2 _), sndE a ok hm tk er sr (h.step fun F1 ι1 S1 H1 v ex s1 p u ru => ?_)⟩
            unfold w1 at p
            simp only at p
            split at p
            · rename_i xs e1
              obtain ⟨q, vs, rfl, hp, r⟩ := s1.now ru e1
              exact ⟨q, vs, rfl, SqL.of hp, p F1 ι1 H1 Ext.refl s1 _ (plan_rev s1 ru e1 r.length)⟩
            · exact p.elim
          · cases ea
        · cases ea
      · cases hm
    | items => cases hm
  | .two o a b, X, G, call, fs, tg, e, W, F, ι, σ, env, S, H, Q, ok, hm, tk, er, sr, h => by
    unfold mI at hm
    unfold evi at h
    rw [Bool.and_eq_true] at hm
    obtain ⟨_, hm⟩ := hm
    cases o with
    | range2 =>
      simp only at hm
      split at hm
      · rename_i a' b' ea
        rw [Bool.and_eq_true] at hm
        unfold bi2 at ea
        split at ea
        · split at ea
          · rename_i hx
            obtain ⟨rfl, h1, h2, h3⟩ := hx
            cases ea
            obtain ⟨g1, g2⟩ := gl_of h1
            refine ⟨_, pi_range2 g1 (ok.bi "range" (by decide)) (pa_cons re (pa_cons re pa_nil (star1 h3 _)) (star1 h2 _)) (by rw [star1 h2, star1 h3]; rfl) (by rw [star1 h3]; rfl), sndE a ok hm.1 tk er sr (h.step fun F1 ι1 S1 H1 x ex s1 p u ru => sndE b ok hm.2 tk (er.mono ex) s1 (p.step fun F2 ι2 S2 H2 y ex2 s2 p2 w rw' => ?_))⟩
            unfold w2 at p2
            simp only at p2
            split at p2
            · split at p2
              · rename_i i j hj
                exact ⟨i, j, by rw [RT.int_inv (ru.mono ex2), RT.int_inv rw'], hj, p2 F2 ι2 H2 Ext.refl s2 _ plan_range⟩
              · exact p2.elim
            · exact p2.elim
          · cases ea
        · cases ea
      · cases hm
    | zip =>
      simp only at hm
      rw [Bool.and_eq_true] at hm
      obtain ⟨ht, hm⟩ := hm
      split at hm
      · rename_i a' b' ea
        rw [Bool.and_eq_true] at hm
        unfold bi2 at ea
        split at ea
        · split at ea
          · rename_i hx
            obtain ⟨rfl, h1, h2, h3⟩ := hx
            cases ea
            obtain ⟨g1, g2⟩ := gl_of h1
            unfold isTupE at ht
            split at ht
            · refine ⟨_, pi_zip g1 (ok.bi "zip" (by decide)) (pa_cons re (pa_cons re pa_nil (star1 h3 _)) (star1 h2 _)) (star1 h2 _) (star_plain (by simp [h3]) _ _), sndE a ok hm.1 tk er sr (h.step fun F1 ι1 S1 H1 x ex s1 p u ru => sndE b ok hm.2 tk (er.mono ex) s1 (p.step fun F2 ι2 S2 H2 y ex2 s2 p2 w rw' => ?_))⟩
              unfold w2 at p2
              simp only at p2
              split at p2
              · rename_i xs ys e1 e2
                obtain ⟨q, vs, rfl, hp, r⟩ := s2.now (ru.mono ex2) e1
                obtain ⟨q', vs', rfl, hp', r'⟩ := s2.now rw' e2
                exact ⟨q, q', vs, vs', rfl, SqL.of hp, SqL.of hp', p2 F2 ι2 H2 Ext.refl s2 _ (plan_zip s2 (ru.mono ex2) e1 rw' e2)⟩
              · exact p2.elim
            · cases ht
          · cases ea
        · cases ea
      · cases hm
termination_by p => (sizeOf p, 0)
theorem sndIs : (p : PV.It) → ∀ {fs : List String × List String × List String} {N : List Str} {sc : Scope} {fn : Str → Bool} {tg e : Expr}, mI fs N sc fn tg p e = true → notSet e = true
  | .one o a, fs, N, sc, fn, tg, e, hm => by
    unfold mI at hm
    rw [Bool.and_eq_true] at hm
    exact hm.1
  | .two o a b, fs, N, sc, fn, tg, e, hm => by
    unfold mI at hm
    rw [Bool.and_eq_true] at hm
    exact hm.1
end
end
end PV

set_option maxRecDepth 100000
set_option maxHeartbeats 4000000
/-! ## 9. The language tells what the machine does: statements -/
namespace PV
open L2 PyProof.Rows PySem.Spec PySem
/-- what is wanted of how a statement ends -/
def PSt (K : PySem.W.Frag) (mg : Str → Option Value) (D : Ends) (W : WX) : Hp → List Addr → Store → Hp → (Fl × En) → Prop := fun F ι _ H p => match p.1 with
  | .nx => ∀ σ, EnvR K F ι σ p.2 → D.nx σ H
  | .ret v => ∀ u, RVr K F ι u v → D.rt u H
  | .brk => ∀ σ, EnvR K F ι σ p.2 → D.bk σ H
  | .cont => ∀ σ, EnvR K F ι σ p.2 → D.ct σ H
  | .exc x => ∀ σ cls d, EnvR K F ι σ p.2 → ExcR mg x cls d → W cls d σ H
section
variable {α : Type} {K : PySem.W.Frag} {mg : Str → Option Value} {F F1 : Hp} {ι ι1 : List Addr} {r : R α} {f : α → Store → R (Fl × En)} {P : Hp → List Addr → Store → Hp → α → Prop} {W : WX} {W0 : XK} {D : Ends} {σ : L2.St} {env : En}
theorem Post.stepL (er : EnvR K F ι σ env) (h : Post K mg F ι (liftE env r f) (PSt K mg D W) W0) (g : ∀ F1 ι1 S1 H1 a, Ext F F1 ι ι1 → SR K F1 ι1 S1 H1 → Post K mg F1 ι1 (f a S1) (PSt K mg D W) W0 → P F1 ι1 S1 H1 a) : Post K mg F ι r P (L2.WE W σ) := by
  cases r with
  | ok a S => exact fun F' ι' H' y s => g F' ι' S H' a y s (Post.ext y h)
  | exc e S => exact fun c d F' ι' H' y s q => h F' ι' H' y s σ c d (er.mono y) q
  | fail => exact h.elim
end
/-- a comprehension is met by one alone -/
theorem comp_of {fs : List String × List String × List String} {N : List Str} {sc : Scope} {fn : Str → Bool} {e : E} {elt : Expr} {gs : List Comprehension} {scope : Scope} {pos : Pos} (h : mE fs N sc fn e (.ListComp elt gs scope pos) = true) :
    ∃ own elt' tg it cond, e = .comp own elt' tg it cond := by
  cases e with
  | comp own elt' tg it cond => exact ⟨_, _, _, _, _, rfl⟩
  | op0 o => cases o <;> simp [mE] at h
  | op1 o a =>
    have : d1 o sc (.ListComp elt gs scope pos) = none := by cases o <;> rfl
    simp [mE, this] at h
  | op2 o a b =>
    have : d2 o sc (.ListComp elt gs scope pos) = none := by cases o <;> rfl
    simp [mE, this] at h
  | op3 o a b c =>
    have : d3 o sc (.ListComp elt gs scope pos) = none := by cases o <;> rfl
    simp [mE, this] at h
  | _ => simp [mE] at h
section
variable {X : Cx} {G : String → Option T} {call : String → List RV → Store → R RV} {fs : List String × List String × List String}
/-- o[i] = v -/
theorem set_any (hu : X.A.units + 1 < cLine) : PSet X (fun o i v H Q => rSetL o i v H Q ∨ ∃ a H', o = .ref a ∧ DPut H a i v H' ∧ Q H') := by
  intro pins s σ H o i v ov iv u Q I ro ri rv h
  rcases h with h | ⟨a, H', rfl, g, q⟩
  · exact set_list pins s σ H o i v ov iv u Q I ro ri rv h
  · cases ro
    exact d_setItem hu I g ri rv fun s' I' => ⟨H', I', q⟩
theorem swapped0 {t v : Expr} (h : (!(isTupE t && isTupE v)) = true) (h2 : ∀ es p, t ≠ .List es p) (env : PySem.Env) : swappedStores [t] v env = pure none := by
  cases t with
  | Tuple ts k p =>
    cases v with
    | Tuple vs k' p' => cases h
    | _ => rfl
  | List es p => exact absurd rfl (h2 es p)
  | _ => rfl
theorem swap_sub {o i : Expr} {ps : Pos} (v : Expr) (n : Nat) (env : PySem.Env) : swapsWithSole [.Subscript o i ps] v n env = pure false := by
  cases v <;> rfl
theorem each1 {t : Expr} (h : notStar t = true) (env : PySem.Env) : (assignEach [t] env).map (·.2) = [assign t env] := by
  cases t <;> first | rfl | (simp [notStar] at h)
theorem tgShape {N : List Str} {sc : Scope} {fn : Str → Bool} {tg : Tg} {t : Expr} (h : mTg N sc fn tg t = true) : notStar t = true ∧ (∀ es p, t ≠ .List es p) := by
  cases tg with
  | nm i =>
    cases t <;> simp [mTg, mNm, notStar] at h ⊢
  | tp is =>
    cases t <;> simp [mTg, notStar] at h ⊢
end
theorem blkK {env : PySem.Env} (h : env.scope.kind = .function) : (env.blockKind == .function) = true := by
  unfold PySem.Env.blockKind
  rw [h]
  rfl

/-- what a statement's context must be like -/
structure Fit (X : Cx) : Prop where
  po : PassesOwn (model X.prog X.w) X.A X.env X.xe
  stk : X.stack = X.env :: X.outer
  frm : X.env.frame = some X.env.locals
  hex : X.ex = []
abbrev SndS (p : Sm) : Prop := ∀ {X : Cx} {G : String → Option T} {call : String → List RV → Store → R RV} {fs : List String × List String × List String} {st : Stmt} {W : WX} {W0 : XK} {F : Hp} {ι : List Addr} {σ : L2.St} {env : En} {S : Store} {H : Hp} {D : Ends}, CtxOk X G call fs → mS fs X.N X.env.scope X.fn p st = true → Takes X W →
    Fit X → EnvR X.K F ι σ env → SR X.K F ι S H → Post X.K X.mg F ι (exe G call p env S) (PSt X.K X.mg D W) W0 → RS X st D σ H
abbrev SndSs (p : Ss) : Prop := ∀ {X : Cx} {G : String → Option T} {call : String → List RV → Store → R RV} {fs : List String × List String × List String} {st : List Stmt} {W : WX} {W0 : XK} {F : Hp} {ι : List Addr} {σ : L2.St} {env : En} {S : Store} {H : Hp} {D : Ends}, CtxOk X G call fs → mSs fs X.N X.env.scope X.fn p st = true → Takes X W →
    Fit X → EnvR X.K F ι σ env → SR X.K F ι S H → Post X.K X.mg F ι (exes G call p env S) (PSt X.K X.mg D W) W0 → RSs X st D σ H
theorem snd_asg (tg : Tg) (e : E) : SndS (.asg tg e) := by
  intro X G call fs st W W0 F ι σ env S H D ok hm tk po er sr h
  unfold mS at hm
  split at hm
  · rename_i t v pos
    simp only [Bool.and_eq_true] at hm
    obtain ⟨⟨h1, h2⟩, h3⟩ := hm
    unfold exe at h
    have key : Post X.K X.mg F ι (ev G call e env S) (VP X.K fun v H1 => RG X t v σ H1 D.nx) (L2.WE W σ) := Post.stepL er h fun F1 ι1 S1 H1 v ex s1 p u ru => by
      split at p
      · rename_i env1 eb
        exact tg_ok ok.calm ok.nd h1 s1 (er.mono ex) ru eb fun σ' er' => p F1 ι1 H1 Ext.refl s1 σ' er'
      · exact p.elim
    split at h3
    · rename_i hn
      obtain ⟨k1, k2⟩ := tgShape h1
      exact ⟨_, ps_asg re rg (swap_plain hn _ _ _) (swapped0 h3 k2 _) (each1 k1 _), sndE e ok h2 tk er sr key⟩
    · rename_i hnc
      unfold swapOk at h3
      split at h3
      · rename_i y py elt gs scope p
        clear hnc
        simp only [Bool.and_eq_true, decide_eq_true_eq] at h3
        obtain ⟨⟨hl, hp⟩, ha⟩ := h3
        obtain ⟨own, elt', tg', it, cond, rfl⟩ := comp_of h2
        cases tg with
        | tp is => cases h1
        | nm i =>
          have h1' := h1
          unfold mTg mNm at h1
          simp only [Bool.and_eq_true, decide_eq_true_eq] at h1
          unfold mE at h2
          split at h2
          · rename_i elt0 tg0 it0 ifs scope0 pos0 hh
            cases hh
            simp only [Bool.and_eq_true, decide_eq_true_eq] at h2
            obtain ⟨⟨⟨⟨⟨⟨hb, hin⟩, hown⟩, ht⟩, hi⟩, hif⟩, hel⟩ := h2
            have hif : mIf fs X.N X.env.scope scope cond ifs = true := hif
            have hsw : swapsWith (.ListComp elt [⟨tg0, it0, ifs, 0⟩] scope p) (some (.Name y py)) pos.line X.env = pure true := sw_true ok.kind hl hp (by simpa using ha)
            refine ⟨_, ps_setLc (i := i) (g := bG X scope tg0) ok.calm ok.nd ?_ hl hsw ri (blkOk_by hb) bG_ok (comp_tests ok (blkOk_by hb) hif (fun {c0 Y W F ι σ env S H Q} okY hmY tkY erY srY p => sndT cond okY hmY tkY erY srY p)).choose_spec.1 bE_ok (set_plain (sndIs it hi) _), ?_⟩
            · exact h1.1
            · refine comp_core ok hb hin hown ht (fun {W F ι σ env S H Q} tk er sr p => sndI it ok hi tk er sr p) (comp_tests ok (blkOk_by hb) hif (fun {c0 Y W F ι σ env S H Q} okY hmY tkY erY srY p => sndT cond okY hmY tkY erY srY p)).choose_spec.2
                (fun {Y W F ι σ env S H Q} okY hmY tkY erY srY p => sndE elt' okY hmY tkY erY srY p) hel tk er sr (Post.stepL er h fun F1 ι1 S1 H1 v ex s1 p u ru => ?_)
              exact p F1 ι1 H1 Ext.refl s1 _ ((er.mono ex).set ru)
          · cases h2
      · cases h3
  · cases hm
theorem snd_sset (o i e : E) : SndS (.sset o i e) := by
  intro X G call fs st W W0 F ι σ env S H D ok hm tk po er sr h
  unfold mS at hm
  split at hm
  · rename_i o' i' ps v pos
    simp only [Bool.and_eq_true] at hm
    obtain ⟨⟨⟨h1, h2⟩, h3⟩, h4⟩ := hm
    unfold exe at h
    · refine ⟨_, ps_asg re (pg_sub re re (set_any (by have := ok.hu; omega)) ?_) (swap_sub _ _ _) rfl rfl, ?_⟩
      · intro w
        cases i' <;> first | rfl | (simp [notSlice] at h1)
      · refine sndE e ok h4 tk er sr (Post.stepL er h fun F1 ι1 S1 H1 w ex s1 p u ru => ?_)
        refine sndE o ok h2 tk (er.mono ex) s1 (Post.stepL (er.mono ex) p fun F2 ι2 S2 H2 x ex2 s2 p2 ux rx => ?_)
        refine sndE i ok h3 tk ((er.mono ex).mono ex2) s2 (Post.stepL ((er.mono ex).mono ex2) p2 fun F3 ι3 S3 H3 y ex3 s3 p3 uy ry => ?_)
        split at p3
        · rename_i z S4 ef
          obtain ⟨F4, x4, s4, r4⟩ := s3.fz (ru.mono (ex2.trans ex3)) ef
          have p3 := p3.ext x4
          have ry' := ry.mono x4
          have rx' := (rx.mono ex3).mono x4
          have er4 := (((er.mono ex).mono ex2).mono ex3).mono x4
          split at p3
          · rename_i q t _ _
            obtain ⟨a, ea, rfl⟩ := rx'
            split at p3
            · rename_i xs es
              obtain ⟨hf, vs, hH, r⟩ := s4.ob _ a _ ea es
              split at p3
              · rename_i k
                split at p3
                · rename_i j hj
                  refine .inl ⟨a, vs, _, j, rfl, RT.int_inv ry', hH, by rw [r.length]; exact hj, ?_⟩
                  exact p3 F4 ι3 _ Ext.refl (s4.writeL ea es (RTs.set r4 j r)) _ er4
                · exact p3.elim
              · exact p3.elim
            · rename_i kvs es
              obtain ⟨hf, vs, hH, r⟩ := s4.ob _ a _ ea es
              split at p3
              · rename_i k ek
                split at p3
                · rename_i hz
                  refine .inr ⟨a, _, rfl, ?_, p3 F4 ι3 _ Ext.refl (s4.writeD ea es (RTk.put k r4 r)) _ er4⟩
                  rw [key_of_t ry' ek]
                  exact DPut.k hH (by rw [r.length]; exact hz)
                · exact p3.elim
              · exact p3.elim
            · exact p3.elim
          · exact p3.elim
        · exact p3.elim
  · cases hm

theorem snd_ex (e : E) : SndS (.ex e) := by
  intro X G call fs st W W0 F ι σ env S H D ok hm tk po er sr h
  unfold mS at hm
  split at hm
  · rw [Bool.and_eq_true] at hm
    unfold exe at h
    exact ⟨_, ps_expr re (swap_plain hm.1 _ _ _), sndE e ok hm.2 tk er sr (Post.stepL er h fun F1 ι1 S1 H1 v ex s1 p u ru => p F1 ι1 H1 Ext.refl s1 σ (er.mono ex))⟩
  · cases hm
theorem snd_ret (e : E) : SndS (.ret e) := by
  intro X G call fs st W W0 F ι σ env S H D ok hm tk po er sr h
  unfold mS at hm
  split at hm
  · unfold exe at h
    exact ⟨_, ps_ret re, sndE e ok hm tk er sr (Post.stepL er h fun F1 ι1 S1 H1 v ex s1 p u ru => p F1 ι1 H1 Ext.refl s1 u ru)⟩
  · cases hm
theorem snd_ret0 : SndS .ret0 := by
  intro X G call fs st W W0 F ι σ env S H D ok hm tk po er sr h
  unfold mS at hm
  split at hm
  · unfold exe at h
    exact ⟨_, ps_retN, h F ι H Ext.refl sr _ .non⟩
  · cases hm
theorem snd_brk : SndS .brk := by
  intro X G call fs st W W0 F ι σ env S H D ok hm tk po er sr h
  unfold mS at hm
  split at hm
  · unfold exe at h
    exact ⟨_, ps_break, h F ι H Ext.refl sr _ er⟩
  · cases hm
theorem snd_cont : SndS .cont := by
  intro X G call fs st W W0 F ι σ env S H D ok hm tk po er sr h
  unfold mS at hm
  split at hm
  · unfold exe at h
    exact ⟨_, ps_continue, h F ι H Ext.refl sr _ er⟩
  · cases hm
theorem snd_raise (c : String) : SndS (.raise c) := by
  intro X G call fs st W W0 F ι σ env S H D ok hm tk po er sr h
  unfold mS at hm
  split at hm
  · simp only [Bool.and_eq_true, decide_eq_true_eq] at hm
    obtain ⟨⟨rfl, h1⟩, h2⟩ := hm
    obtain ⟨g1, g2⟩ := gl_of h1
    obtain ⟨C, m1, m2, m3, m4, m5, _⟩ := ok.exc c (by simpa using h2)
    unfold exe at h
    exact ⟨_, ps_raise ok.calm tk (pmk_own PySem.F.excBase_ValueError m2 m1 m3 (raises_own m4 m5) g1 g2), h F ι H Ext.refl sr σ _ none er ⟨C, m1, rfl, rfl, rfl⟩⟩
  · cases hm
theorem drop_set {K : PySem.W.Frag} {F : Hp} {ι : List Addr} {σ : L2.St} {env : En} (h : EnvR K F ι σ env) (n : Nat) (v : Option V) : EnvR K F ι (σ.set n v) (env.set n none) := by
  refine ⟨by simp [h.len], fun i r e => ?_⟩
  by_cases q : n = i
  · subst q
    by_cases hl : n < env.length
    · rw [List.getElem?_set_self hl] at e; cases e
    · rw [List.getElem?_eq_none (by rw [List.length_set]; omega)] at e; cases e
  · rw [List.getElem?_set_ne q] at e ⊢
    exact h.at_ i r e
theorem snd_try {b : Ss} {cs : List String} {c : String} {n m : Nat} (hb : SndSs b) : SndS (.tryK b cs c n m) := by
  intro X G call fs st W W0 F ι σ env S H D ok hm tk po er sr h
  unfold mS at hm
  split at hm
  · rename_i body x np z y p1 z2 p2 p3 pos' pos
    simp only [Bool.and_eq_true, decide_eq_true_eq] at hm
    obtain ⟨⟨⟨⟨⟨⟨⟨⟨⟨⟨⟨⟨h1, rfl⟩, h3⟩, h4⟩, h5⟩, h6⟩, h7⟩, h8⟩, h9⟩, rfl⟩, h11⟩, h12⟩, h13⟩ := hm
    obtain ⟨v1, v2, v3⟩ := vis_of h13
    obtain ⟨g1, g2⟩ := gl_of h3
    have h6 := List.all_eq_true.mp h6
    have hcl : c ∈ fs.2.2 := by simpa using h4
    obtain ⟨vc, uc, hvu⟩ := ok.cls c hcl
    unfold exe at h
    have nms : Names X (Str.ofString c) uc := by
      refine ⟨g1, g2, ?_⟩
      rcases hvu with ⟨D, rfl, rfl, hm⟩ | ⟨rfl, rfl, rfl, hm⟩
      · exact .inl hm
      · exact .inr ⟨hm, by decide +kernel, by decide⟩
    refine ⟨_, ps_try_keep (tb := fun W => fun D σ H => ∀ (pn : List (Addr × Obj)) (xe : Value → Shared → Prop), Takes (X.tr pn xe) W → PassesOwn (model X.prog X.w) X.A X.env xe → RSs (X.tr pn xe) body D σ H) po.stk po.frm po.hex ok.nd h7 h8 h9 (by
        show X.env.scope.names.lookup _ = some .local
        exact h11) h12 v1 v2 v3 nms tk (fun W pn xe tk' po' => ⟨fun pins s σ H D J q => rss.run pins s σ H D J (q pn xe tk' po')⟩), fun pn xe tk' po' => ?_⟩
    refine hb (X := X.tr pn xe) (W0 := fun _ _ _ => True) ⟨ok.calm, ok.nd, ok.kind, ok.hu, ok.bi, ok.glb, ok.fns, ok.exc, ok.cls, ok.exk⟩ h1 tk' ⟨po', po.stk, po.frm, po.hex⟩ er sr ?_
    show Post X.K X.mg F ι (exes G call b env S) (PSt X.K X.mg D (wKeep X.K uc n m W D)) fun _ _ _ => True
    cases hr : exes G call b env S with
    | fail => rw [hr] at h; exact h.elim
    | exc e S1 => rw [hr] at h; exact h.elim
    | ok p S1 =>
      rw [hr] at h
      obtain ⟨fl, env1⟩ := p
      unfold keepX at h
      cases fl with
      | nx => exact h
      | ret v => exact h
      | brk => exact h
      | cont => exact h
      | exc e =>
        simp only at h
        split at h
        · rename_i hcs
          have hcs' : e.cls ∈ fs.2.1 := by
            have := h6 e.cls (by simpa using hcs)
            simpa using this
          intro F' ι' H' ex s' σ' cls d er' hx
          obtain ⟨C, hm, rfl, hf, rfl⟩ := hx
          obtain ⟨C2, m1, _, _, _, _, m6⟩ := ok.exc e.cls hcs'
          have eC : C2 = C := by
            rw [hm] at m1
            exact (Value.ref.inj (Option.some.inj m1)).symm
          subst eC
          obtain ⟨_, _, k3⟩ := ok.exk e.cls hcs' C2 m6 c hcl vc uc hvu
          refine ⟨exB e.cls c, k3 h5, fun hb => ⟨rfl, fun a na => ?_⟩, fun hb => ?_⟩
          · rw [if_pos hb] at h
            obtain ⟨s2, x2⟩ := s'.moreF (u := ExK (.ref C2) a) na
            refine h _ ι' _ (ex.trans x2) s2 _ ?_
            have e0 : (env1.set m (some (RV.t (.exn e.cls)))).set n none = ((env1.set n none).set m (some (RV.t (.exn e.cls)))).set n none := by
              apply List.ext_getElem?
              intro i
              by_cases q1 : n = i
              · subst q1
                by_cases hl : n < env1.length
                · rw [List.getElem?_set_self (by simpa using hl), List.getElem?_set_self (by simpa using hl)]
                · rw [List.getElem?_eq_none (by simp; omega), List.getElem?_eq_none (by simp; omega)]
              · rw [List.getElem?_set_ne q1, List.getElem?_set_ne q1]
                by_cases q2 : m = i
                · subst q2
                  by_cases hl : m < env1.length
                  · rw [List.getElem?_set_self hl, List.getElem?_set_self (by simpa using hl)]
                  · rw [List.getElem?_eq_none (by simp; omega), List.getElem?_eq_none (by simp; omega)]
                · rw [List.getElem?_set_ne q2, List.getElem?_set_ne q2, List.getElem?_set_ne q1]
            show EnvR X.K _ ι' _ ((env1.set m (some (RV.t (.exn e.cls)))).set n none)
            rw [e0]
            exact drop_set ((drop_set (er'.mono x2) n _).set (show RVr X.K _ ι' (.ref a) (.t (.exn e.cls)) from .exn upd_same m6)) n none
          · rw [if_neg (by rw [hb]; exact Bool.false_ne_true)] at h
            exact h F' ι' H' ex s' σ' _ _ er' ⟨C2, hm, rfl, hf, rfl⟩
        · exact h.elim
  · cases hm
theorem snd_ite {c : E} {a b : Ss} (ha : SndSs a) (hb : SndSs b) : SndS (.ite c a b) := by
  intro X G call fs st W W0 F ι σ env S H D ok hm tk po er sr h
  unfold mS at hm
  split at hm
  · simp only [Bool.and_eq_true] at hm
    obtain ⟨⟨h1, h2⟩, h3⟩ := hm
    unfold exe at h
    refine ⟨_, ps_if rt rss rss, sndT c ok h1 tk er sr (Post.stepL er h fun F1 ι1 S1 H1 k ex s1 p => ?_)⟩
    cases k with
    | true =>
      refine iteT ?_
      rw [if_pos rfl] at p
      exact ha ok h2 tk po (er.mono ex) s1 p
    | false =>
      refine iteF ?_
      rw [if_neg Bool.false_ne_true] at p
      exact hb ok h3 tk po (er.mono ex) s1 p
  · cases hm
/-- a body's end within a loop -/
theorem body_end {K : PySem.W.Frag} {mg : Str → Option Value} {D : Ends} {W : WX} {N : L2.St → Hp → Prop} {F : Hp} {ι : List Addr} {S : Store} {H : Hp} {r : Fl × En} {g : R (Fl × En)} {W0 : XK} (sr : SR K F ι S H)
    (h : Post K mg F ι (match r.1 with
      | .nx => g
      | .cont => g
      | .brk => .ok (.nx, r.2) S
      | .ret v => .ok (.ret v, r.2) S
      | .exc x => .ok (.exc x, r.2) S) (PSt K mg D W) W0) (hn : ∀ σ, EnvR K F ι σ r.2 → Post K mg F ι g (PSt K mg D W) W0 → N σ H) : PSt K mg { D with nx := N, ct := N, bk := D.nx } W F ι S H r := by
  obtain ⟨r, env⟩ := r
  cases r with
  | nx => exact fun σ er => hn σ er h
  | cont => exact fun σ er => hn σ er h
  | brk => exact h F ι H Ext.refl sr
  | ret v => exact h F ι H Ext.refl sr
  | exc x => exact h F ι H Ext.refl sr
theorem snd_for {tg : Tg} {it : PV.It} {b : Ss} (hb : SndSs b) : SndS (.for_ tg it b) := by
  intro X G call fs st W W0 F ι σ env S H D ok hm tk po er sr h
  unfold mS at hm
  split at hm
  · simp only [Bool.and_eq_true] at hm
    obtain ⟨⟨h1, h2⟩, h3⟩ := hm
    unfold exe at h
    refine ⟨_, ps_for po.po ok.calm ri rg rss (set_plain (sndIs it h2) _), sndI it ok h2 tk er sr (Post.stepL er h fun F1 ι1 S1 H1 pl ex s1 p1 J plr => ?_)⟩
    refine ⟨fun i m σ' H' => ∃ F' ι' S' env', Ext F1 F' ι1 ι' ∧ SR X.K F' ι' S' H' ∧ EnvR X.K F' ι' σ' env' ∧ Post X.K X.mg F' ι' (forL pl.watch (fun x env S => match bindT tg (.t x) env S with
      | some env1 => exes G call b env1 S
      | none => .fail) (pl.items.drop i) env' S') (PSt X.K X.mg D W) W0 ∧ m = pl.items.length - i ∧ i ≤ pl.items.length, ⟨_, F1, ι1, S1, env, Ext.refl, s1, er.mono ex, p1, rfl, Nat.zero_le _⟩, ?_⟩
    rintro i m σ' H' ⟨F', ι', S', env', ex', s', er', p', rfl, hle⟩
    by_cases hlt : i < pl.items.length
    · rw [List.drop_eq_getElem_cons hlt] at p'
      unfold forL at p'
      split at p'
      · rename_i st
        refine .inr ⟨plr.go i F' ι' S' H' ex' s' st hlt, fun σ2 H2 => ∃ F2 ι2 S2 env2, Ext F1 F2 ι1 ι2 ∧ SR X.K F2 ι2 S2 H2 ∧ EnvR X.K F2 ι2 σ2 env2 ∧ Post X.K X.mg F2 ι2 (forL pl.watch (fun x env S => match bindT tg (.t x) env S with
          | some env1 => exes G call b env1 S
          | none => .fail) (pl.items.drop (i + 1)) env2 S2) (PSt X.K X.mg D W) W0, ?_, ?_⟩
        · rintro σ2 H2 ⟨F2, ι2, S2, env2, q1, q2, q3, q4⟩
          exact ⟨pl.items.length - (i + 1), by omega, F2, ι2, S2, env2, q1, q2, q3, q4, rfl, hlt⟩
        · intro v H2 hy
          obtain ⟨F2, x2, s2', z, hz, rz⟩ := plr.yld i F' ι' S' H' v H2 ex' s' st hlt hy
          have ez : pl.items[i] = z := by
            rw [List.getElem?_eq_getElem hlt] at hz
            exact Option.some.inj hz
          rw [ez] at p'
          have p'' := p'.ext x2
          cases eb : bindT tg (.t z) env' S' with
          | none =>
            rw [eb] at p''
            exact p''.elim
          | some env2 =>
            rw [eb] at p''
            refine tg_ok (x := .t z) ok.calm ok.nd h1 s2' (er'.mono x2) rz eb fun σ3 er3 => ?_
            refine hb (W0 := fun _ _ _ => False) ok h3 tk po er3 s2' (p''.stepN fun F3 ι3 S3 H3 r ex3 s3 p3 => ?_)
            exact body_end s3 p3 fun σ4 er4 p4 => ⟨F3, ι3, S3, r.2, (ex'.trans x2).trans ex3, s3, er4, p4⟩
      · exact p'.elim
    · have e0 : i = pl.items.length := by omega
      subst e0
      rw [List.drop_length] at p'
      unfold forL at p'
      split at p'
      · rename_i st
        exact .inl ⟨plr.stop F' ι' S' H' ex' s' st, p' F' ι' H' Ext.refl s' σ' er'⟩
      · exact p'.elim
  · cases hm
theorem snd_whl {c : E} {b : Ss} (hb : SndSs b) : SndS (.whl c b) := by
  intro X G call fs st W W0 F ι σ env S H D ok hm tk po er sr h
  unfold mS at hm
  split at hm
  · simp only [Bool.and_eq_true] at hm
    obtain ⟨h1, h2⟩ := hm
    unfold exe at h
    generalize fuel = fu at h
    refine ⟨_, ps_while po.po rt rss, ?_⟩
    refine ⟨fun m σ' H' => ∃ F' ι' S' env', SR X.K F' ι' S' H' ∧ EnvR X.K F' ι' σ' env' ∧ Post X.K X.mg F' ι' (whlL (fun env S => tst G call c env S) (fun env S => exes G call b env S) m env' S') (PSt X.K X.mg D W) W0, ⟨fu, F, ι, S, env, sr, er, h⟩, ?_⟩
    rintro m σ' H' ⟨F', ι', S', env', s', er', p'⟩
    cases m with
    | zero => exact p'.elim
    | succ m =>
      unfold whlL at p'
      refine sndT c ok h1 tk er' s' (Post.stepL er' p' fun F1 ι1 S1 H1 k ex s1 p1 => ?_)
      cases k with
      | true =>
        refine iteT ?_
        rw [if_pos rfl] at p1
        refine ⟨fun σ2 H2 => ∃ F2 ι2 S2 env2, SR X.K F2 ι2 S2 H2 ∧ EnvR X.K F2 ι2 σ2 env2 ∧ Post X.K X.mg F2 ι2 (whlL (fun env S => tst G call c env S) (fun env S => exes G call b env S) m env2 S2) (PSt X.K X.mg D W) W0, fun σ2 H2 q => ⟨m, by omega, q⟩, ?_⟩
        refine hb (W0 := fun _ _ _ => False) ok h2 tk po (er'.mono ex) s1 (p1.stepN fun F3 ι3 S3 H3 r ex3 s3 p3 => ?_)
        exact body_end s3 p3 fun σ4 er4 p4 => ⟨F3, ι3, S3, r.2, s3, er4, p4⟩
      | false =>
        refine iteF ?_
        rw [if_neg Bool.false_ne_true] at p1
        exact p1 F1 ι1 H1 Ext.refl s1 σ' (er'.mono ex)
  · cases hm
theorem snd_nil : SndSs .nil := by
  intro X G call fs st W W0 F ι σ env S H D ok hm tk po er sr h
  unfold mSs at hm
  split at hm
  · unfold exes at h
    exact ⟨_, pss_nil, h F ι H Ext.refl sr σ er⟩
  · cases hm
theorem snd_cons {s : Sm} {r : Ss} (hs : SndS s) (hr : SndSs r) : SndSs (.cons s r) := by
  intro X G call fs st W W0 F ι σ env S H D ok hm tk po er sr h
  unfold mSs at hm
  split at hm
  · rename_i s' r'
    rw [Bool.and_eq_true] at hm
    unfold exes at h
    refine ⟨_, pss_cons rs rss, hs (D := { D with nx := RSs X r' D }) (W0 := fun _ _ _ => False) ok hm.1 tk po er sr (h.stepN fun F1 ι1 S1 H1 p ex s1 p1 => ?_)⟩
    obtain ⟨p, env1⟩ := p
    cases p with
    | nx => exact fun σ1 er1 => hr ok hm.2 tk po er1 s1 p1
    | ret v => exact p1 F1 ι1 H1 Ext.refl s1
    | brk => exact p1 F1 ι1 H1 Ext.refl s1
    | cont => exact p1 F1 ι1 H1 Ext.refl s1
    | exc x => exact p1 F1 ι1 H1 Ext.refl s1
  · cases hm
mutual
theorem sndS : (p : Sm) → SndS p
  | .ex e => snd_ex e
  | .asg tg e => snd_asg tg e
  | .sset o i e => snd_sset o i e
  | .ret e => snd_ret e
  | .ret0 => snd_ret0
  | .ite c a b => snd_ite (sndSs a) (sndSs b)
  | .for_ tg it b => snd_for (sndSs b)
  | .whl c b => snd_whl (sndSs b)
  | .raise c => snd_raise c
  | .tryK b cs c n m => snd_try (sndSs b)
  | .cont => snd_cont
  | .brk => snd_brk
theorem sndSs : (p : Ss) → SndSs p
  | .nil => snd_nil
  | .cons s r => snd_cons (sndS s) (sndSs r)
end
end PV

set_option maxRecDepth 100000
set_option maxHeartbeats 4000000
/-! ## 10. Functions, and the law's end -/
namespace PV
open L2 PyProof.Rows PySem.Spec PySem
/-- a def of the text and its form in the small language -/
structure DefAt (K : PySem.W.Frag) (mg : Str → Option Value) (fs : List String × List String × List String) (f : String) (d : Fn) (a : Addr) (fd : FuncData) (ps : List Str) : Prop where
  ex : ∃ (st : Stmt) (N : List Str), mg (Str.ofString f) = some (.ref a) ∧ Fun K (Str.ofString f) (Str.ofString f) st a fd ∧ FnScope N ps (defScope st) ∧ Binds K fd ps [] ∧ ps.length = d.np ∧ N.length = d.nl ∧ mSs fs N (defScope st) (fun _ => true) d.body (defBody st) = true
def DefOk (K : PySem.W.Frag) (mg : Str → Option Value) (fs : List String × List String × List String) (f : String) (d : Fn) : Prop := ∃ a fd ps, DefAt K mg fs f d a fd ps
def GlbOk (K : PySem.W.Frag) (mg : Str → Option Value) (x : String) (y : T) : Prop := ∃ u v, mg (Str.ofString x) = some u ∧ RelV v u ∧ ∀ F, RT K F v y
def ExcOk (K : PySem.W.Frag) (mg : Str → Option Value) (c : String) : Prop := ∃ C, mg (Str.ofString c) = some (.ref C) ∧ PySem.W.excIn K C [.type "ValueError", .type "Exception", .type "BaseException", .type "object"] "ValueError.__new__" = true ∧ PySem.W.keepIn K (.ref C) = true ∧
    PySem.W.subIn K (.ref C) (.type "BaseException") = some true ∧ PySem.W.typeIn K (.ref C) = some (.type "type") ∧ PySem.W.nsIn K mainGlobals (Str.ofString c) = some (some (.ref C))
section
variable {P : Program} {w : World} {K : PySem.W.Frag} {mg : Str → Option Value} {base : Heap} {F : Hp} {ι : List Addr} {Q : VK} {E : XK}
theorem endC_post {S : Store} {r : R (Fl × En)} (hl : ι.length = S.length) (h : Post K mg F ι (endC S.length r) (VP K Q) E) : Post K mg F ι r (PSt K mg { nx := fun _ H' => Q .non H', rt := Q } fun cls d _ H => E cls d H) fun _ _ _ => True := by
  cases r with
  | fail => exact h
  | exc x S' => exact fun _ _ _ _ _ _ _ _ => True.intro
  | ok p S' =>
    obtain ⟨fl, env⟩ := p
    intro F' ι' H' ex sr
    obtain ⟨more, rfl⟩ := ex.i
    have ex0 : Ext F F' ι ι := ⟨ex.f, [], by simp⟩
    have c := sr.cut hl.symm
    cases fl with
    | nx => exact fun σ _ => h F' ι H' ex0 c _ .non
    | brk => exact h.elim
    | cont => exact h.elim
    | exc x => exact fun σ cls d _ q => h cls d F' ι H' ex0 c q
    | ret v =>
      intro u ru
      have ru := sr.nrm ru
      simp only [endC, fin] at h
      generalize PV.nrm S' v = v' at h ru
      cases v' with
      | t x => exact h F' ι H' ex0 c u ru
      | o i =>
        obtain ⟨a, ea, rfl⟩ := ru
        simp only at h
        split at h
        · rename_i hi
          exact h F' ι H' ex0 c _ ⟨a, by rw [List.getElem?_append_left (by omega)] at ea; exact ea, rfl⟩
        · rename_i hi
          split at h
          · rename_i so es
            exact h F' (ι ++ [a]) H' ⟨ex.f, [a], rfl⟩ (sr.keep1 hl.symm (by omega) ea es) _ ⟨a, by rw [← hl]; simp, rfl⟩
          · exact h.elim
theorem start_ok {S : Store} {N : List Str} {vs : List V} {rs : List RV} {n m : Nat} (r : RVs K F ι vs rs) (h1 : vs.length = m) (h2 : N.length = n) : EnvR K F ι (L2.start N vs) (rs.map some ++ List.replicate (n - m) none) := by
  have hl := r.length
  refine ⟨by unfold L2.start; simp [h1, h2, ← hl], fun i z e => ?_⟩
  have key : ∀ {vs : List V} {rs : List RV} {i : Nat}, RVs K F ι vs rs → rs[i]? = some z → ∃ v, vs[i]? = some v ∧ RVr K F ι v z := by
    intro vs
    induction vs with
    | nil =>
      intro rs i r e
      cases rs with
      | nil => simp at e
      | cons _ _ => exact r.elim
    | cons v vs ih =>
      intro rs i r e
      cases rs with
      | nil => simp at e
      | cons y rs =>
        cases i with
        | zero =>
          simp at e
          subst e
          exact ⟨v, rfl, r.1⟩
        | succ i => exact ih r.2 (by simpa using e)
  by_cases hi : i < rs.length
  · rw [List.getElem?_append_left (by simpa using hi), List.getElem?_map] at e
    cases ez : rs[i]? with
    | none => rw [ez] at e; cases e
    | some y =>
      rw [ez] at e
      cases e
      obtain ⟨v, e1, e2⟩ := key r ez
      refine ⟨v, ?_, e2⟩
      unfold L2.start
      rw [List.getElem?_append_left (by simpa [hl] using hi), List.getElem?_map, e1]
      rfl
  · rw [List.getElem?_append_right (by simpa using Nat.le_of_not_lt hi)] at e
    have := List.getElem?_replicate (a := (none : Option RV)) (n := n - m) (i := i - (rs.map some).length)
    rw [this] at e
    split at e <;> cases e
/-- the tables of a program -/
structure Tabs where
  fns : List (String × Fn)
  glb : List (String × T)
  exc : List String
  cls : List String := []
abbrev Tabs.G (t : Tabs) : String → Option T := fun x => t.glb.lookup x
abbrev Tabs.Δ (t : Tabs) : String → Option Fn := fun x => t.fns.lookup x
abbrev Tabs.fs (t : Tabs) : List String × List String × List String := (t.fns.map (·.1), t.exc, t.cls)
structure TabsOk (K : PySem.W.Frag) (mg : Str → Option Value) (t : Tabs) : Prop where
  fns : ∀ p ∈ t.fns, DefOk K mg t.fs p.1 p.2
  glb : ∀ p ∈ t.glb, GlbOk K mg p.1 p.2
  exc : ∀ c ∈ t.exc, ExcOk K mg c
  bi : ∀ x ∈ biN, mg (Str.ofString x) = none
  cls : ∀ d ∈ t.cls, ∃ v u, ClsAt mg d v u
  exk : ∀ c ∈ t.exc, ∀ C, PySem.W.nsIn K mainGlobals (Str.ofString c) = some (some (.ref C)) → ∀ d ∈ t.cls, ∀ v u, ClsAt mg d v u →
    ExcC K C ∧ PySem.W.kitOne K (.ref C) u = some (exB c d) ∧ (isCau d = true → PySem.W.exmOne K (.ref C) u = some (exB c d))
theorem lookup_mem {α : Type} {f : String} {x : α} : ∀ {l : List (String × α)}, l.lookup f = some x → (f, x) ∈ l
  | [], h => by cases h
  | (g, y) :: r, h => by
    rw [List.lookup_cons] at h
    split at h
    · rename_i e
      rw [beq_iff_eq] at e
      cases h
      subst e
      exact .head _
    · exact .tail _ (lookup_mem h)
theorem mem_lookup {α : Type} {f : String} : ∀ {l : List (String × α)}, f ∈ l.map (·.1) → ∃ x, l.lookup f = some x
  | [], h => by cases h
  | (g, y) :: r, h => by
    rw [List.lookup_cons]
    by_cases e : f = g
    · subst e
      exact ⟨y, by simp⟩
    · rw [show (f == g) = false by simpa using e]
      refine mem_lookup (l := r) ?_
      rw [List.map_cons] at h
      rcases List.mem_cons.mp h with z | z
      · exact absurd z e
      · exact z
/-- each function keeps what the small language tells of it -/
theorem run_all {t : Tabs} (ok : TabsOk K mg t) : ∀ (k : Nat) (f : String) (d : Fn) (a : Addr) (fd : FuncData) (ps : List Str), t.fns.lookup f = some d → DefAt K mg t.fs f d a fd ps → FnOk P w K mg base (L2.CX P w) k a fd ps (spC K mg (callF t.G t.Δ k) f)
  | 0, f, d, a, fd, ps, hl, D => ⟨fun vs H Q E ⟨F, ι, S, rs, _, _, p⟩ => by (rw [callF_0] at p; exact p.elim), fun A outer s H args us vs Q E _ _ _ _ ⟨F, ι, S, rs, _, _, p⟩ => by (rw [callF_0] at p; exact p.elim)⟩
  | k + 1, f, d, a, fd, ps, hl, D => by
    obtain ⟨st, N, hm, Fn, Sc, hb, l1, l2, mm⟩ := D.ex
    refine Fun.okX Fn Sc (fun vs H Q E ⟨F, ι, S, rs, sr, rv, p⟩ => ?_) (fun cdv A outer s H vs Q E hr ⟨F, ι, S, rs, sr, rv, p⟩ => ?_)
    · rw [callF_s] at p
      simp only [Tabs.Δ, hl] at p
      split at p
      · rename_i e
        rw [rv.length, e, l1]
      · exact p.elim
    · rw [callF_s] at p
      simp only [Tabs.Δ, hl] at p
      split at p
      · rename_i e
        have X : CtxOk (cxOf (L2.CX P w) P w K mg base N (Str.ofString f) (defScope st) a cdv A outer s H E) t.G (callF t.G t.Δ k) t.fs := {
          calm := rfl
          nd := Sc.nd
          kind := Sc.kind
          hu := hr.units
          bi := ok.bi
          glb := fun x y e => ok.glb _ (lookup_mem e)
          fns := fun g hg => by
            obtain ⟨dg, eg⟩ := mem_lookup hg
            obtain ⟨ag, fg, pg, Dg⟩ := ok.fns _ (lookup_mem eg)
            obtain ⟨sg, Ng, hmg, Fg, Sg, hbg, _, _, _⟩ := Dg.ex
            exact ⟨ag, fg, pg, k, hmg, Fg.kp, hr, hbg, run_all ok k g dg ag fg pg eg Dg⟩
          exc := ok.exc
          cls := ok.cls
          exk := ok.exk }
        exact ⟨_, rss, sndSs d.body (W := fun cls d _ H => E cls d H) (W0 := fun _ _ _ => True) X mm (takes_of rfl rfl rfl rfl) ⟨passes_of rfl, rfl, rfl, rfl⟩ (start_ok (S := S) rv (by rw [rv.length, e]) l2) sr (endC_post sr.len p)⟩
      · exact p.elim
theorem RTs.intsK : ∀ (ns : List Int), RTs K F (ns.map V.int) (ns.map T.int)
  | [] => .nil
  | n :: ns => .cons (.int n) (RTs.intsK ns)
/-- what the law is called with and what it tells -/
def spL (t : Tabs) (k : Nat) (K : PySem.W.Frag) : Sp := fun vs H Q E => ∃ (a : Addr) (ns : List Int) (S : Store), vs = [.ref a] ∧ SqL K H a (ns.map V.int) ∧ callF t.G t.Δ k "law" [.t (.rol (ns.map T.int))] [] = .ok (.t (.bl true)) S ∧ ∀ H', Q (.bl true) H'
theorem law_fn {t : Tabs} {k : Nat} {d : Fn} {a : Addr} {fd : FuncData} {ps : List Str} (ok : TabsOk K mg t) (hl : t.fns.lookup "law" = some d) (D : DefAt K mg t.fs "law" d a fd ps) : FnOk P w K mg base (L2.CX P w) k a fd ps (spL t k K) :=
  (run_all ok k "law" d a fd ps hl D).imp fun vs H Q E ⟨b, ns, S, e1, e2, e3, e4⟩ => by
    subst e1
    refine ⟨H, [], [], [.t (.rol (ns.map T.int))], ⟨Same.refl H, rfl, fun i a so e => by simp at e, fun i a e => by simp at e, fun i j a e => by simp at e⟩, ⟨.rol e2 (RTs.intsK ns), trivial⟩, ?_⟩
    rw [e3]
    exact fun F' ι' H' _ _ u ru => by
      cases (show RT K F' u (.bl true) from ru)
      exact e4 H'
/-- a def by the facts of the written part -/
theorem def_mk {t : Tabs} {h : Heap} {x : String} {d : Fn} {st : Stmt} {N ps : List Str} {f : Addr} {oc : Value} {od an : Option Addr} {osl : Array (Option Value)} {kV doc pm cdv ct : Value} (X : K.In h) (G : h.Ns mainGlobals mg)
    (a : PySem.W.nsIn K mainGlobals (Str.ofString x) = some (some (.ref f))) (l : K.lookup f = some ⟨oc, od, .func (PySem.W.fnOf (Str.ofString x) (Str.ofString x) (defArgs st) (defBody st) (defScope st) .none kV doc pm an cdv ct), osl⟩)
    (c : PySem.W.codeIn K cdv (Str.ofString x) = true) (k : PySem.W.keepIn K (.ref f) = true) (S : FnScope N ps (defScope st))
    (b : ∀ (kV doc pm : Value) (an : Option Addr) (cdv ct : Value) (us : List Value), us.length = ps.length → bindArgs (PySem.W.fnOf (Str.ofString x) (Str.ofString x) (defArgs st) (defBody st) (defScope st) .none kV doc pm an cdv ct) ⟨us, []⟩ = pure (ps.zip us))
    (l1 : ps.length = d.np) (l2 : N.length = d.nl) (m : mSs t.fs N (defScope st) (fun _ => true) d.body (defBody st) = true) :
    DefAt K mg t.fs x d f (PySem.W.fnOf (Str.ofString x) (Str.ofString x) (defArgs st) (defBody st) (defScope st) .none kV doc pm an cdv ct) ps :=
  have F := fun_mk l c k
  ⟨st, N, PySem.W.mg_of X G a, F, S, F.binds b, l1, l2, m⟩
theorem glb_mk {h : Heap} {x : String} {y : T} {u : Value} {v : V} (X : K.In h) (G : h.Ns mainGlobals mg) (a : PySem.W.nsIn K mainGlobals (Str.ofString x) = some (some u)) (r : RelV v u) (q : ∀ F, RT K F v y) : GlbOk K mg x y := ⟨u, v, PySem.W.mg_of X G a, r, q⟩
theorem exc_mk {h : Heap} {x : String} {C : Addr} (X : K.In h) (G : h.Ns mainGlobals mg) (a : PySem.W.nsIn K mainGlobals (Str.ofString x) = some (some (.ref C)))
    (b : PySem.W.excIn K C [.type "ValueError", .type "Exception", .type "BaseException", .type "object"] "ValueError.__new__" = true) (c : PySem.W.keepIn K (.ref C) = true) (d : PySem.W.subIn K (.ref C) (.type "BaseException") = some true)
    (e : PySem.W.typeIn K (.ref C) = some (.type "type")) : ExcOk K mg x := ⟨C, PySem.W.mg_of X G a, b, c, d, e, a⟩
theorem bi_mk {h : Heap} (X : K.In h) (G : h.Ns mainGlobals mg) (a : ∀ x ∈ biN, PySem.W.nsIn K mainGlobals (Str.ofString x) = some none) : ∀ x ∈ biN, mg (Str.ofString x) = none := fun x hx => PySem.W.mg_none_of X G (a x hx)
theorem cls_mk {h : Heap} {d : String} {D : Addr} (X : K.In h) (G : h.Ns mainGlobals mg) (a : PySem.W.nsIn K mainGlobals (Str.ofString d) = some (some (.ref D))) : ∃ v u, ClsAt mg d v u := ⟨_, _, .inl ⟨D, rfl, rfl, PySem.W.mg_of X G a⟩⟩
theorem cls_mkV {h : Heap} (X : K.In h) (G : h.Ns mainGlobals mg) (a : PySem.W.nsIn K mainGlobals (Str.ofString "ValueError") = some none) : ∃ v u, ClsAt mg "ValueError" v u := ⟨_, _, .inr ⟨rfl, rfl, rfl, PySem.W.mg_none_of X G a⟩⟩
theorem exk_mk {h : Heap} {c d : String} {C D : Addr} (X : K.In h) (G : h.Ns mainGlobals mg) (ec : PySem.W.nsIn K mainGlobals (Str.ofString c) = some (some (.ref C))) (ed : PySem.W.nsIn K mainGlobals (Str.ofString d) = some (some (.ref D)))
    (E : ExcC K C) (k : PySem.W.kitOne K (.ref C) (.ref D) = some (exB c d)) (x : isCau d = true → PySem.W.exmOne K (.ref C) (.ref D) = some (exB c d)) (hd : d ≠ "ValueError") (C' : Addr) (hC : PySem.W.nsIn K mainGlobals (Str.ofString c) = some (some (.ref C'))) (v : V) (u : Value) (q : ClsAt mg d v u) :
    ExcC K C' ∧ PySem.W.kitOne K (.ref C') u = some (exB c d) ∧ (isCau d = true → PySem.W.exmOne K (.ref C') u = some (exB c d)) := by
  rw [ec] at hC
  cases hC
  rcases q with ⟨D', rfl, rfl, hm⟩ | ⟨e, _⟩
  · have hm2 : mg (Str.ofString d) = some (.ref D) := PySem.W.mg_of X G ed
    rw [hm2] at hm
    cases hm
    exact ⟨E, k, x⟩
  · exact absurd e hd
theorem exk_mkV {h : Heap} {c : String} {C : Addr} (X : K.In h) (G : h.Ns mainGlobals mg) (ec : PySem.W.nsIn K mainGlobals (Str.ofString c) = some (some (.ref C))) (ev : PySem.W.nsIn K mainGlobals (Str.ofString "ValueError") = some none)
    (E : ExcC K C) (k : PySem.W.kitOne K (.ref C) (.type "ValueError") = some true) (C' : Addr) (hC : PySem.W.nsIn K mainGlobals (Str.ofString c) = some (some (.ref C'))) (v : V) (u : Value) (q : ClsAt mg "ValueError" v u) :
    ExcC K C' ∧ PySem.W.kitOne K (.ref C') u = some (exB c "ValueError") ∧ (isCau "ValueError" = true → PySem.W.exmOne K (.ref C') u = some (exB c "ValueError")) := by
  rw [ec] at hC
  cases hC
  rcases q with ⟨D', rfl, rfl, hm⟩ | ⟨e, rfl, rfl, _⟩
  · have hm2 : mg (Str.ofString "ValueError") = none := PySem.W.mg_none_of X G ev
    rw [hm2] at hm
    cases hm
  · refine ⟨E, ?_, fun z => absurd z (by decide)⟩
    rw [k]
    simp [exB]
end
end PV

set_option maxRecDepth 100000
set_option maxHeartbeats 1000000
/-! ## 11. How a law is reckoned: what a run comes to, by rules of rewriting -/
namespace PV
open PySem L2
/-- a run ends well, and P holds of what it tells; an exception must meet E -/
@[irreducible] def R.wp {α : Type} (r : R α) (P : α → Store → Prop) (E : Exc → Store → Prop) : Prop :=
  match r with
  | .ok a S => P a S
  | .exc x S => E x S
  | .fail => False
/-- no exception -/
def nE : Exc → Store → Prop := fun _ _ => False
section
variable {α β : Type} {a : α} {S : Store} {x : Exc} {P : α → Store → Prop} {P2 : β → Store → Prop} {E : Exc → Store → Prop} {r : R α} {f : α → Store → R β} {g : α → Store → R (Fl × En)} {PF : Fl × En → Store → Prop} {env : En}
@[simp] theorem wp_ok : (R.ok a S).wp P E = P a S := by unfold R.wp; rfl
@[simp] theorem wp_exc : (R.exc (α := α) x S).wp P E = E x S := by unfold R.wp; rfl
@[simp] theorem wp_fail : (R.fail (α := α)).wp P E = False := by unfold R.wp; rfl
@[simp] theorem wp_bind : (r.bind f).wp P2 E = r.wp (fun a S => (f a S).wp P2 E) E := by cases r <;> unfold R.wp <;> rfl
@[simp] theorem wp_liftE : (liftE env r g).wp PF E = r.wp (fun a S => (g a S).wp PF E) (fun x S => PF (.exc x, env) S) := by cases r <;> unfold R.wp <;> rfl
@[simp] theorem wp_noX : (noX r f).wp P2 E = r.wp (fun a S => (f a S).wp P2 E) nE := by cases r <;> unfold R.wp <;> rfl
@[simp] theorem wp_ite {c : Prop} [Decidable c] {r1 r2 : R α} : (if c then r1 else r2).wp P E = (if c then r1.wp P E else r2.wp P E) := by split <;> rfl
theorem wp_mono {Q : α → Store → Prop} {E' : Exc → Store → Prop} (h : r.wp Q E') (hP : ∀ a S, Q a S → P a S) (hE : ∀ x S, E' x S → E x S) : r.wp P E := by
  unfold R.wp at h ⊢
  cases r with
  | ok a S => exact hP _ _ h
  | exc x S => exact hE _ _ h
  | fail => exact h
/-- the rule where no exception comes -/
theorem wp_use {Q : α → Store → Prop} (h : r.wp Q nE) (hP : ∀ a S, Q a S → P a S) : r.wp P E := wp_mono h hP fun _ _ z => z.elim
theorem wp_done {P : α → Store → Prop} (h : r.wp P nE) : ∃ a S, r = .ok a S ∧ P a S := by
  unfold R.wp at h
  cases r with
  | ok a S => exact ⟨a, S, rfl, h⟩
  | exc x S => exact h.elim
  | fail => exact h.elim
theorem wp_rw {r' : R α} (h : r = r') (h' : r'.wp P E) : r.wp P E := h ▸ h'
theorem wp_eq (h : r = .ok a S) (hp : P a S) : r.wp P E := by rw [h, wp_ok]; exact hp
end
/-! ### expressions -/
section
variable {G : String → Option T} {call : String → List RV → Store → R RV} {env : En} {S : Store} {P : RV → Store → Prop} {E : Exc → Store → Prop} {PB : Bool → Store → Prop} {PL : List RV → Store → Prop} {PP : Plan → Store → Prop} {PF : Fl × En → Store → Prop}
@[simp] theorem wp_var {i : Nat} : (ev G call (.var i) env S).wp P E = match env[i]? with | some (some v) => P (nrm S v) S | _ => False := by
  rw [ev]
  rcases env[i]? with _ | _ | v <;> simp only [wp_ok, wp_fail]
@[simp] theorem wp_cst {x : T} : (ev G call (.cst x) env S).wp P E = P (.t x) S := by rw [ev]; try simp only [wp_ok]
@[simp] theorem wp_glb {x : String} : (ev G call (.glb x) env S).wp P E = match G x with | some y => P (.t y) S | none => False := by
  rw [ev]
  cases G x <;> simp only [wp_ok, wp_fail]
@[simp] theorem wp_op0 {o : O0} : (ev G call (.op0 o) env S).wp P E = (s0 o S).wp P E := by rw [ev]; try simp only [wp_ok]
@[simp] theorem wp_op1 {o : O1} {a : PV.E} : (ev G call (.op1 o a) env S).wp P E = (ev G call a env S).wp (fun v S1 => (s1 o v S1).wp P E) E := by rw [ev]; simp
@[simp] theorem wp_op2 {o : O2} {a b : PV.E} : (ev G call (.op2 o a b) env S).wp P E = (ev G call a env S).wp (fun v S1 => pre2 o v S1 = true ∧ (ev G call b env S1).wp (fun u S2 => (s2 o v u S2).wp P E) E) E := by rw [ev]; simp
@[simp] theorem wp_op3 {o : O3} {a b c : PV.E} : (ev G call (.op3 o a b c) env S).wp P E = (ev G call a env S).wp (fun v S1 => pre3 o v S1 = true ∧ (ev G call b env S1).wp (fun u S2 => mid3 o u = true ∧ (ev G call c env S2).wp (fun w S3 => (s3 o v u w S3).wp P E) E) E) E := by rw [ev]; simp
@[simp] theorem wp_and {a b : PV.E} : (ev G call (.and a b) env S).wp P E = (ev G call a env S).wp (fun v S1 => (asB v S1).wp (fun k S2 => if k = true then (ev G call b env S2).wp P E else P (.t (.bl false)) S2) E) E := by rw [ev]; simp
@[simp] theorem wp_or {a b : PV.E} : (ev G call (.or a b) env S).wp P E = (ev G call a env S).wp (fun v S1 => (asB v S1).wp (fun k S2 => if k = true then P (.t (.bl true)) S2 else (ev G call b env S2).wp P E) E) E := by rw [ev]; simp
@[simp] theorem wp_not {a : PV.E} : (ev G call (.not a) env S).wp P E = (ev G call a env S).wp (fun v S1 => (trB v S1).wp (fun k S2 => P (.t (.bl (!k))) S2) E) E := by rw [ev]; simp
@[simp] theorem wp_iteE {c a b : PV.E} : (ev G call (.ite c a b) env S).wp P E = (tst G call c env S).wp (fun k S1 => if k = true then (ev G call a env S1).wp P E else (ev G call b env S1).wp P E) E := by rw [ev]; simp
@[simp] theorem wp_chain {o p : O2} {a b c : PV.E} : (ev G call (.chain o p a b c) env S).wp P E = (ev G call a env S).wp (fun v S1 => (ev G call b env S1).wp (fun u S2 => (s2 o v u S2).wp (fun r S3 => (asB r S3).wp (fun k S4 => if k = true then (ev G call c env S4).wp (fun w S5 => (s2 p u w S5).wp P E) E else P (.t (.bl false)) S4) E) E) E) E := by rw [ev]; simp
@[simp] theorem wp_call {f : String} {as : Es} : (ev G call (.call f as) env S).wp P E = (evs G call as env S).wp (fun vs S1 => (call f vs S1).wp P E) E := by rw [ev]; simp
@[simp] theorem wp_tup {as : Es} : (ev G call (.tup as) env S).wp P E = (evs G call as env S).wp (fun vs S1 => match fzs S1 vs with | some (xs, S2) => xs.length ≤ sizeLine ∧ P (.t (.tup xs)) S2 | none => False) E := by
  rw [ev]
  simp only [wp_bind]
  congr 1
  funext vs S1
  rcases fzs S1 vs with _ | ⟨xs, S2⟩ <;> simp
@[simp] theorem wp_lst {as : Es} : (ev G call (.lst as) env S).wp P E = (evs G call as env S).wp (fun vs S1 => match fzs S1 vs with | some (xs, S2) => xs.length ≤ sizeLine ∧ P (.o S2.length) (S2 ++ [.lst xs]) | none => False) E := by
  rw [ev]
  simp only [wp_bind]
  congr 1
  funext vs S1
  rcases fzs S1 vs with _ | ⟨xs, S2⟩ <;> simp
@[simp] theorem wp_dct {ks : List Str} {as : Es} : (ev G call (.dct ks as) env S).wp P E = (evs G call as env (S ++ [.dic []])).wp (fun rs S1 => (ks.length = rs.length ∧ ks.length ≤ 15) ∧ match fzs S1 rs with
    | some (xs, S2) => match S2[S.length]? with
      | some (.dic []) => P (.o S.length) (S2.set S.length (.dic (mergeT (keysT ks xs) [])))
      | _ => False
    | none => False) E := by
  rw [ev]
  simp only [wp_bind, wp_ite, wp_fail, if_false_right]
  congr 1
  funext vs S1
  rcases fzs S1 vs with _ | ⟨xs, S2⟩
  · simp only [wp_fail]
  · rcases e : S2[S.length]? with _ | so
    · simp only [wp_fail, e]
    · cases so with
      | frz _ => simp only [wp_fail, e]
      | lst _ => simp only [wp_fail, e]
      | dic kvs => cases kvs <;> simp only [wp_fail, wp_ok, e]
/-- a comprehension's turn -/
noncomputable def stepC (G : String → Option T) (call : String → List RV → Store → R RV) (own : List Nat) (elt : PV.E) (tg : Tg) (cond : PV.E) (env : En) (x : T) (S : Store) : R (Option RV) := match bindT tg (.t x) (wipeE env own) S with
        | some env2 => noX (tst G call cond env2 S) fun k S2 => if k then noX (ev G call elt env2 S2) fun v S3 => .ok (some v) S3 else .ok none S2
        | none => .fail
@[simp] theorem wp_comp {own : List Nat} {elt cond : PV.E} {tg : Tg} {it : It} : (ev G call (.comp own elt tg it cond) env S).wp P E = (evi G call it env S).wp (fun pl S1 => (lcL pl.watch S1.length (stepC G call own elt tg cond env) pl.items (S1 ++ [.lst []])).wp (fun _ S2 => P (.o S1.length) S2) E) E := by
  rw [ev]
  simp only [wp_bind, wp_ok]
  rfl
theorem wp_stepC {own : List Nat} {elt cond : PV.E} {tg : Tg} {x : T} {PO : Option RV → Store → Prop} : (stepC G call own elt tg cond env x S).wp PO E = match bindT tg (.t x) (wipeE env own) S with
        | some env2 => (tst G call cond env2 S).wp (fun k S2 => if k = true then (ev G call elt env2 S2).wp (fun v S3 => PO (some v) S3) nE else PO none S2) nE
        | none => False := by
  unfold stepC
  split <;> simp
@[simp] theorem wp_nil : (evs G call .nil env S).wp PL E = PL [] S := by rw [evs]; try simp only [wp_ok]
@[simp] theorem wp_cons {a : PV.E} {r : Es} : (evs G call (.cons a r) env S).wp PL E = (ev G call a env S).wp (fun v S1 => (evs G call r env S1).wp (fun vs S2 => PL (v :: vs) S2) E) E := by rw [evs]; simp
@[simp] theorem wt_and {a b : PV.E} : (tst G call (.and a b) env S).wp PB E = (tst G call a env S).wp (fun k S1 => if k = true then (tst G call b env S1).wp PB E else PB false S1) E := by rw [tst]; simp
@[simp] theorem wt_or {a b : PV.E} : (tst G call (.or a b) env S).wp PB E = (tst G call a env S).wp (fun k S1 => if k = true then PB true S1 else (tst G call b env S1).wp PB E) E := by rw [tst]; simp
@[simp] theorem wt_not {a : PV.E} : (tst G call (.not a) env S).wp PB E = (tst G call a env S).wp (fun k S1 => PB (!k) S1) E := by rw [tst]; simp
@[simp] theorem wt_op2 {o : O2} {a b : PV.E} : (tst G call (.op2 o a b) env S).wp PB E = (ev G call a env S).wp (fun v S1 => pre2 o v S1 = true ∧ (ev G call b env S1).wp (fun u S2 => (s2 o v u S2).wp (fun r S3 => if isCmp o = true then (asB r S3).wp PB E else (trB r S3).wp PB E) E) E) E := by rw [tst]; simp
@[simp] theorem wt_chain {o p : O2} {a b c : PV.E} : (tst G call (.chain o p a b c) env S).wp PB E = (ev G call a env S).wp (fun v S1 => (ev G call b env S1).wp (fun u S2 => (s2 o v u S2).wp (fun r S3 => (asB r S3).wp (fun k S4 => if k = true then (ev G call c env S4).wp (fun w S5 => (s2 p u w S5).wp (fun r S6 => (asB r S6).wp PB E) E) E else PB false S4) E) E) E) E := by rw [tst]; simp
@[simp] theorem wt_var {i : Nat} : (tst G call (.var i) env S).wp PB E = match env[i]? with | some (some v) => (trB (nrm S v) S).wp PB E | _ => False := by
  rw [tst]
  rcases env[i]? with _ | _ | v <;> simp only [wp_ok, wp_fail]
@[simp] theorem wt_cst {x : T} : (tst G call (.cst x) env S).wp PB E = (trB (.t x) S).wp PB E := by rw [tst]; try simp only [wp_ok]
@[simp] theorem wt_op1 {o : O1} {a : PV.E} : (tst G call (.op1 o a) env S).wp PB E = (ev G call a env S).wp (fun v S1 => (s1 o v S1).wp (fun r S2 => (trB r S2).wp PB E) E) E := by rw [tst]; simp
@[simp] theorem wt_call {f : String} {as : Es} : (tst G call (.call f as) env S).wp PB E = (evs G call as env S).wp (fun vs S1 => (call f vs S1).wp (fun r S2 => (trB r S2).wp PB E) E) E := by rw [tst]; simp
@[simp] theorem wi_one {o : I1} {a : PV.E} : (evi G call (.one o a) env S).wp PP E = (ev G call a env S).wp (fun v S1 => (w1 o v S1).wp PP E) E := by rw [evi]; simp
@[simp] theorem wi_two {o : I2} {a b : PV.E} : (evi G call (.two o a b) env S).wp PP E = (ev G call a env S).wp (fun v S1 => (ev G call b env S1).wp (fun u S2 => (w2 o v u S2).wp PP E) E) E := by rw [evi]; simp
@[simp] theorem asB_b {b : Bool} : asB (.t (.bl b)) S = .ok b S := rfl
/-! ### statements -/
@[simp] theorem ws_ex {e : PV.E} : (exe G call (.ex e) env S).wp PF E = (ev G call e env S).wp (fun _ S1 => PF (.nx, env) S1) (fun x S => PF (.exc x, env) S) := by rw [exe]; simp
@[simp] theorem ws_asg {tg : Tg} {e : PV.E} : (exe G call (.asg tg e) env S).wp PF E = (ev G call e env S).wp (fun v S1 => match bindT tg v env S1 with | some env1 => PF (.nx, env1) S1 | none => False) (fun x S => PF (.exc x, env) S) := by
  rw [exe]
  simp only [wp_liftE]
  congr 1
  funext v S1
  cases bindT tg v env S1 <;> simp only [wp_ok, wp_fail]
/-- o[i] = y, of fixed y -/
def putO (v u : RV) (y : T) (S4 : Store) : Option Store :=
  match v, u with
        | .o p, .t x => match S4[p]? with
          | some (.lst xs) => match x with
            | .int k => match ixN xs.length k with
              | some j => some (S4.set p (.lst (xs.set j y)))
              | none => none
            | _ => none
          | some (.dic kvs) => match keyOf x with
            | some k => if kvs.length < sizeLine then some (S4.set p (.dic (dput kvs k y))) else none
            | none => none
          | _ => none
        | _, _ => none
@[simp] theorem ws_sset {o i e : PV.E} : (exe G call (.sset o i e) env S).wp PF E = (ev G call e env S).wp (fun w S1 => (ev G call o env S1).wp (fun v S2 => (ev G call i env S2).wp (fun u S3 =>
      match fz S3 w with
      | some (y, S4) => match putO v u y S4 with
        | some S5 => PF (.nx, env) S5
        | none => False
      | none => False) (fun x S => PF (.exc x, env) S)) (fun x S => PF (.exc x, env) S)) (fun x S => PF (.exc x, env) S) := by
  rw [exe]
  simp only [wp_liftE]
  congr 1
  funext w S1
  congr 1
  funext v S2
  congr 1
  funext u S3
  cases fz S3 w with
  | none => simp only [wp_ok, wp_fail, putO]
  | some q =>
    obtain ⟨y, S4⟩ := q
    cases v with
    | t _ => simp only [wp_ok, wp_fail, putO]
    | o p =>
      cases u with
      | o _ => simp only [wp_ok, wp_fail, putO]
      | t x =>
        simp only [putO]
        cases S4[p]? with
        | none => simp only [wp_ok, wp_fail, putO]
        | some so =>
          cases so with
          | frz _ => simp only [wp_ok, wp_fail, putO]
          | lst xs =>
            cases x with
            | int k =>
              simp only
              cases ixN xs.length k <;> simp only [wp_ok, wp_fail]
            | _ => simp only [wp_ok, wp_fail, putO]
          | dic kvs =>
            simp only
            cases keyOf x with
            | none => simp only [wp_ok, wp_fail, putO]
            | some k =>
              simp only
              split <;> simp only [wp_ok, wp_fail]
@[simp] theorem ws_ret {e : PV.E} : (exe G call (.ret e) env S).wp PF E = (ev G call e env S).wp (fun v S1 => PF (.ret v, env) S1) (fun x S => PF (.exc x, env) S) := by rw [exe]; simp
@[simp] theorem ws_ret0 : (exe G call .ret0 env S).wp PF E = PF (.ret (.t .non), env) S := by rw [exe]; try simp only [wp_ok]
@[simp] theorem ws_ite {c : PV.E} {a b : Ss} : (exe G call (.ite c a b) env S).wp PF E = (tst G call c env S).wp (fun k S1 => if k = true then (exes G call a env S1).wp PF E else (exes G call b env S1).wp PF E) (fun x S => PF (.exc x, env) S) := by rw [exe]; simp
/-- how a try ends -/
def tryP (cs : List String) (c : String) (n m : Nat) (PF : Fl × En → Store → Prop) (p : Fl × En) (S : Store) : Prop := match p.1 with
  | .exc x => if cs.contains x.cls = true then if exB x.cls c = true then PF (.nx, (p.2.set m (some (.t (.exn x.cls)))).set n none) S else PF (.exc x, p.2) S else False
  | _ => PF p S
@[simp] theorem tryP_nx {cs : List String} {c : String} {n m : Nat} : tryP cs c n m PF (.nx, env) S = PF (.nx, env) S := rfl
@[simp] theorem tryP_ret {cs : List String} {c : String} {n m : Nat} {v : RV} : tryP cs c n m PF (.ret v, env) S = PF (.ret v, env) S := rfl
@[simp] theorem tryP_exc {cs : List String} {c : String} {n m : Nat} {x : Exc} : tryP cs c n m PF (.exc x, env) S = if cs.contains x.cls = true then if exB x.cls c = true then PF (.nx, (env.set m (some (.t (.exn x.cls)))).set n none) S else PF (.exc x, env) S else False := rfl
@[simp] theorem ws_try {b : Ss} {cs : List String} {c : String} {n m : Nat} : (exe G call (.tryK b cs c n m) env S).wp PF E = (exes G call b env S).wp (tryP cs c n m PF) nE := by
  rw [exe]
  unfold keepX
  generalize exes G call b env S = r
  cases r with
  | fail => simp
  | exc x S1 => simp [nE]
  | ok p S1 =>
    obtain ⟨fl, env1⟩ := p
    cases fl with
    | exc x =>
      simp only [wp_ok, tryP_exc]
      split <;> simp
    | _ => simp only [wp_ok]; rfl
/-- a loop's turn -/
noncomputable def stepF (G : String → Option T) (call : String → List RV → Store → R RV) (tg : Tg) (body : Ss) (x : T) (env : En) (S : Store) : R (Fl × En) := match bindT tg (.t x) env S with
      | some env1 => exes G call body env1 S
      | none => .fail
@[simp] theorem ws_for {tg : Tg} {it : It} {body : Ss} : (exe G call (.for_ tg it body) env S).wp PF E = (evi G call it env S).wp (fun pl S1 => (forL pl.watch (stepF G call tg body) pl.items env S1).wp PF E) (fun x S => PF (.exc x, env) S) := by
  rw [exe]
  simp only [wp_liftE]
  rfl
theorem wp_stepF {tg : Tg} {body : Ss} {x : T} : (stepF G call tg body x env S).wp PF E = match bindT tg (.t x) env S with | some env1 => (exes G call body env1 S).wp PF E | none => False := by
  unfold stepF
  cases bindT tg (.t x) env S <;> simp only [wp_fail]
@[simp] theorem ws_whl {c : PV.E} {body : Ss} : (exe G call (.whl c body) env S).wp PF E = (whlL (fun env S => tst G call c env S) (fun env S => exes G call body env S) fuel env S).wp PF E := by rw [exe]; try simp only [wp_ok]
@[simp] theorem ws_raise {c : String} : (exe G call (.raise c) env S).wp PF E = PF (.exc ⟨c, none⟩, env) S := by rw [exe]; try simp only [wp_ok]
@[simp] theorem ws_cont : (exe G call .cont env S).wp PF E = PF (.cont, env) S := by rw [exe]; try simp only [wp_ok]
@[simp] theorem ws_brk : (exe G call .brk env S).wp PF E = PF (.brk, env) S := by rw [exe]; try simp only [wp_ok]
@[simp] theorem wb_nil : (exes G call .nil env S).wp PF E = PF (.nx, env) S := by rw [exes]; try simp only [wp_ok]
/-- behind a statement -/
def seqF (G : String → Option T) (call : String → List RV → Store → R RV) (r : Ss) (PF : Fl × En → Store → Prop) (E : Exc → Store → Prop) (p : Fl × En) (S1 : Store) : Prop := match p.1 with
    | .nx => (exes G call r p.2 S1).wp PF E
    | .ret v => PF (.ret v, p.2) S1
    | .brk => PF (.brk, p.2) S1
    | .cont => PF (.cont, p.2) S1
    | .exc x => PF (.exc x, p.2) S1
@[simp] theorem wb_cons {s : Sm} {r : Ss} : (exes G call (.cons s r) env S).wp PF E = (exe G call s env S).wp (seqF G call r PF E) nE := by
  rw [exes]
  simp only [wp_noX]
  congr 1
  funext p S1
  unfold seqF
  obtain ⟨p, e1⟩ := p
  cases p <;> simp only [wp_ok]
@[simp] theorem seqF_nx {r : Ss} : seqF G call r PF E (.nx, env) S = (exes G call r env S).wp PF E := rfl
@[simp] theorem seqF_ret {r : Ss} {v : RV} : seqF G call r PF E (.ret v, env) S = PF (.ret v, env) S := rfl
@[simp] theorem seqF_brk {r : Ss} : seqF G call r PF E (.brk, env) S = PF (.brk, env) S := rfl
@[simp] theorem seqF_cont {r : Ss} : seqF G call r PF E (.cont, env) S = PF (.cont, env) S := rfl
@[simp] theorem seqF_exc {r : Ss} {x : Exc} : seqF G call r PF E (.exc x, env) S = PF (.exc x, env) S := rfl
end
/-! ### calls -/
/-- what a call's end comes to -/
def endP (n : Nat) (P : RV → Store → Prop) (E : Exc → Store → Prop) (p : Fl × En) (S : Store) : Prop := match p.1 with
  | .nx => P (.t .non) (S.take n)
  | .ret v => (fin n v S).wp P E
  | .exc x => E x (S.take n)
  | _ => False
section
variable {n : Nat} {P : RV → Store → Prop} {E : Exc → Store → Prop} {S : Store} {env : En}
@[simp] theorem endP_nx : endP n P E (.nx, env) S = P (.t .non) (S.take n) := rfl
@[simp] theorem endP_ret {v : RV} : endP n P E (.ret v, env) S = (fin n v S).wp P E := rfl
@[simp] theorem endP_exc {x : Exc} : endP n P E (.exc x, env) S = E x (S.take n) := rfl
@[simp] theorem fin_tree {x : T} : fin n (.t x) S = .ok (.t x) (S.take n) := rfl
theorem wp_callF {G : String → Option T} {Δ : String → Option Fn} {k : Nat} {f : String} {vs : List RV} {d : Fn} (hd : Δ f = some d) (hl : vs.length = d.np)
    (h : (exes G (callF G Δ k) d.body (vs.map some ++ List.replicate (d.nl - d.np) none) S).wp (endP S.length P E) nE) : (callF G Δ (k + 1) f vs S).wp P E := by
  rw [callF_s, hd]
  simp only [if_pos hl]
  generalize exes G (callF G Δ k) d.body (vs.map some ++ List.replicate (d.nl - d.np) none) S = r at h
  cases r with
  | ok p S1 =>
    obtain ⟨fl, e⟩ := p
    cases fl <;> simp only [wp_ok, wp_exc, wp_fail, endP, endC] at h ⊢ <;> first | exact h | exact h.elim
  | exc x S1 => rw [wp_exc] at h; exact h.elim
  | fail => rw [wp_fail] at h; exact h.elim
theorem wp_fn {t : Tabs} {k : Nat} {f : String} {vs : List RV} {d : Fn} (hd : List.lookup f t.fns = some d) (hl : vs.length = d.np)
    (h : (exes t.G (callF t.G t.Δ k) d.body (vs.map some ++ List.replicate (d.nl - d.np) none) S).wp (endP S.length P E) nE) : (callF t.G t.Δ (k + 1) f vs S).wp P E := wp_callF (Δ := t.Δ) hd hl h
/-- an own object handed back -/
@[simp] theorem fin_lst {S0 R : Store} {xs : List T} (h : S0.length = n) {i : Nat} (hi : (S0 ++ R)[n + i]? = some (.lst xs)) : fin n (.o (n + i)) (S0 ++ R) = .ok (.o n) (S0 ++ [.lst xs]) := by
  unfold fin PV.nrm
  simp only [hi]
  rw [if_neg (by omega)]
  rw [List.take_left' h]
theorem fin_new {S0 R : Store} {so : SO} (hs : ∀ x, so ≠ .frz x) {i : Nat} (h : S0.length = n) (hn : n ≤ i) (hi : (S0 ++ R)[i]? = some so) : fin n (.o i) (S0 ++ R) = .ok (.o n) (S0 ++ [so]) := by
  unfold fin PV.nrm
  simp only [hi]
  cases so with
  | frz x => exact absurd rfl (hs x)
  | lst xs => simp only [hi]; rw [if_neg (by omega), List.take_left' h]
  | dic xs => simp only [hi]; rw [if_neg (by omega), List.take_left' h]
end
/-! ### the store -/
section
variable {S S1 R : Store} {n m p q : Nat} {so : SO}
@[simp] theorem at_app0 (h : S1.length = n) : (S1 ++ R)[n]? = R[0]? := by rw [List.getElem?_append_right (by omega)]; congr 1; omega
@[simp] theorem at_app (h : S1.length = n) : (S1 ++ R)[n + m]? = R[m]? := by rw [List.getElem?_append_right (by omega)]; congr 1; omega
@[simp] theorem at_lt (h : p < S1.length) : (S1 ++ R)[p]? = S1[p]? := List.getElem?_append_left h
@[simp] theorem set_app0 (h : S1.length = n) : (S1 ++ R).set n so = S1 ++ R.set 0 so := by rw [List.set_append_right _ _ (by omega)]; congr 2; omega
@[simp] theorem set_app (h : S1.length = n) : (S1 ++ R).set (n + m) so = S1 ++ R.set m so := by rw [List.set_append_right _ _ (by omega)]; congr 2; omega
@[simp] theorem set_lt (h : p < S1.length) : (S1 ++ R).set p so = S1.set p so ++ R := List.set_append_left _ _ h
@[simp] theorem take_app (h : S1.length = n) : (S1 ++ R).take n = S1 := List.take_left' h
theorem take_self (h : S1.length = n) : S1.take n = S1 := List.take_of_length_le (by omega)
theorem lt_of_at (h : S[p]? = some so) : p < S.length := (List.getElem?_eq_some_iff.mp h).1
@[simp] theorem at_set (h : p < S.length) : (S.set p so)[p]? = some so := by rw [List.getElem?_set_self h]
@[simp] theorem at_set_ne (h : p ≠ q) : (S.set p so)[q]? = S[q]? := List.getElem?_set_ne h
@[simp] theorem vw_t {x : T} : vw S (.t x) = some x := rfl
@[simp] theorem vw_o : vw S (.o p) = (S[p]?).map SO.tree := rfl
@[simp] theorem tree_frz {x : T} : (SO.frz x).tree = x := rfl
@[simp] theorem tree_lst {x : List T} : (SO.lst x).tree = .lst x := rfl
@[simp] theorem tree_dic {x : List (Key × T)} : (SO.dic x).tree = .dic x := rfl
@[simp] theorem fz_t {x : T} : fz S (.t x) = some (x, S) := rfl
@[simp] theorem fz_o : fz S (.o p) = match S[p]? with | some so => some (so.tree, S.set p (.frz so.tree)) | none => none := rfl
@[simp] theorem fzs_nil : fzs S [] = some ([], S) := rfl
@[simp] theorem fzs_cons {v : RV} {vs : List RV} : fzs S (v :: vs) = match fz S v with
    | some (x, S1) => match fzs S1 vs with
      | some (xs, S2) => some (x :: xs, S2)
      | none => none
    | none => none := rfl
@[simp] theorem nrm_t {x : T} : nrm S (.t x) = .t x := rfl
@[simp] theorem nrm_o : nrm S (.o p) = match S[p]? with | some (.frz x) => .t x | _ => .o p := rfl
end
/-- what a call hands back, by where it lies -/
theorem fin_app {n i : Nat} {S0 R : Store} (h : S0.length = n) : fin n (.o (n + i)) (S0 ++ R) = match R[i]? with
    | some (SO.frz x) => PV.R.ok (.t x) S0
    | some (SO.lst xs) => PV.R.ok (.o n) (S0 ++ [.lst xs])
    | some (SO.dic xs) => PV.R.ok (.o n) (S0 ++ [.dic xs])
    | none => .fail := by
  unfold fin PV.nrm
  simp only [at_app h]
  have h2 : ¬ n + i < n := by omega
  cases e : R[i]? with
  | none => simp only [at_app h, e, h2, if_false]
  | some so => cases so <;> simp only [at_app h, e, h2, if_false, List.take_left' h]
theorem fin_app0 {n : Nat} {S0 R : Store} (h : S0.length = n) : fin n (.o n) (S0 ++ R) = match R[0]? with
    | some (SO.frz x) => PV.R.ok (.t x) S0
    | some (SO.lst xs) => PV.R.ok (.o n) (S0 ++ [.lst xs])
    | some (SO.dic xs) => PV.R.ok (.o n) (S0 ++ [.dic xs])
    | none => .fail := fin_app (i := 0) h
/-! ### loops -/
section
variable {w : List (Nat × T)} {items : List T} {env : En} {S : Store} {E : Exc → Store → Prop}
/-- what a turn of a for must come to -/
def turnF (N : En → Store → Prop) (PF : Fl × En → Store → Prop) (r : Fl × En) (S1 : Store) : Prop := match r.1 with
  | .nx => N r.2 S1
  | .cont => N r.2 S1
  | .brk => PF (.nx, r.2) S1
  | .ret v => PF (.ret v, r.2) S1
  | .exc x => PF (.exc x, r.2) S1
variable {N : En → Store → Prop} {PF : Fl × En → Store → Prop}
@[simp] theorem turnF_nx : turnF N PF (.nx, env) S = N env S := rfl
@[simp] theorem turnF_cont : turnF N PF (.cont, env) S = N env S := rfl
@[simp] theorem turnF_brk : turnF N PF (.brk, env) S = PF (.nx, env) S := rfl
@[simp] theorem turnF_ret {v : RV} : turnF N PF (.ret v, env) S = PF (.ret v, env) S := rfl
@[simp] theorem turnF_exc {x : Exc} : turnF N PF (.exc x, env) S = PF (.exc x, env) S := rfl
theorem wp_forL {step : T → En → Store → R (Fl × En)} (Inv : Nat → En → Store → Prop) (h0 : Inv 0 env S) (hst : ∀ i env S, i ≤ items.length → Inv i env S → stands w S)
    (hs : ∀ (i : Nat) (x : T) (env : En) (S : Store), items[i]? = some x → Inv i env S → (step x env S).wp (turnF (Inv (i + 1)) PF) nE)
    (he : ∀ env S, Inv items.length env S → PF (.nx, env) S) : (forL w step items env S).wp PF E := by
  have key : ∀ (n i : Nat) (env : En) (S : Store), i + n = items.length → Inv i env S → (forL w step (items.drop i) env S).wp PF E := by
    intro n
    induction n with
    | zero =>
      intro i env S hi hI
      have : i = items.length := by omega
      subst this
      rw [List.drop_length]
      unfold forL
      rw [if_pos (hst _ _ _ (Nat.le_refl _) hI), wp_ok]
      exact he _ _ hI
    | succ n ih =>
      intro i env S hi hI
      have hlt : i < items.length := by omega
      rw [List.drop_eq_getElem_cons hlt]
      unfold forL
      rw [if_pos (hst _ _ _ (by omega) hI)]
      rw [wp_noX]
      refine wp_mono (hs i _ env S (List.getElem?_eq_getElem hlt) hI) (fun r S1 h => ?_) fun _ _ z => z
      obtain ⟨fl, e1⟩ := r
      cases fl with
      | nx => exact ih (i + 1) e1 S1 (by omega) h
      | cont => exact ih (i + 1) e1 S1 (by omega) h
      | brk => simp only [wp_ok]; exact h
      | ret v => simp only [wp_ok]; exact h
      | exc x => simp only [wp_ok]; exact h
  exact key items.length 0 env S (by omega) h0
/-- while: a measure goes down -/
theorem wp_whlL {c : En → Store → R Bool} {body : En → Store → R (Fl × En)} (Inv : Nat → En → Store → Prop) {n : Nat} (h0 : Inv n env S)
    (hs : ∀ (n : Nat) (env : En) (S : Store), Inv n env S → (c env S).wp (fun b S1 => if b = true then (body env S1).wp (turnF (fun e S2 => ∃ m, m < n ∧ Inv m e S2) PF) nE else PF (.nx, env) S1) (fun x S => PF (.exc x, env) S)) :
    ∀ {fu : Nat}, n < fu → (whlL c body fu env S).wp PF E := by
  intro fu hf
  induction fu generalizing n env S with
  | zero => omega
  | succ fu ih =>
    unfold whlL
    rw [wp_liftE]
    refine wp_mono (hs n env S h0) (fun b S1 h => ?_) fun _ _ z => z
    cases b with
    | false => rw [if_neg Bool.false_ne_true] at h ⊢; rw [wp_ok]; exact h
    | true =>
      rw [if_pos rfl] at h ⊢
      rw [wp_noX]
      refine wp_mono h (fun r S2 h => ?_) fun _ _ z => z
      obtain ⟨fl, e1⟩ := r
      cases fl with
      | nx =>
        obtain ⟨m, hm, hI⟩ := h
        exact ih hI (by omega)
      | cont =>
        obtain ⟨m, hm, hI⟩ := h
        exact ih hI (by omega)
      | brk => simp only [wp_ok]; exact h
      | ret v => simp only [wp_ok]; exact h
      | exc x => simp only [wp_ok]; exact h
/-- a comprehension -/
theorem wp_lcL {D : Nat} {step : T → Store → R (Option RV)} {P : Unit → Store → Prop} (Inv : Nat → List T → Store → Prop) (h0 : Inv 0 [] S) (hst : ∀ i acc S, i ≤ items.length → Inv i acc S → stands w S)
    (hs : ∀ (i : Nat) (x : T) (acc : List T) (S : Store), items[i]? = some x → Inv i acc S → (step x S).wp (fun r S1 => match r with
      | none => Inv (i + 1) acc S1
      | some v => ∃ y S2, fz S1 v = some (y, S2) ∧ S2[D]? = some (.lst acc) ∧ acc.length < sizeLine ∧ Inv (i + 1) (acc ++ [y]) (S2.set D (.lst (acc ++ [y])))) nE)
    (he : ∀ acc S, Inv items.length acc S → P () S) : (lcL w D step items S).wp P E := by
  have key : ∀ (n i : Nat) (acc : List T) (S : Store), i + n = items.length → Inv i acc S → (lcL w D step (items.drop i) S).wp P E := by
    intro n
    induction n with
    | zero =>
      intro i acc S hi hI
      have : i = items.length := by omega
      subst this
      rw [List.drop_length]
      unfold lcL
      rw [if_pos (hst _ _ _ (Nat.le_refl _) hI), wp_ok]
      exact he _ _ hI
    | succ n ih =>
      intro i acc S hi hI
      have hlt : i < items.length := by omega
      rw [List.drop_eq_getElem_cons hlt]
      unfold lcL
      rw [if_pos (hst _ _ _ (by omega) hI)]
      rw [wp_noX]
      refine wp_mono (hs i _ acc S (List.getElem?_eq_getElem hlt) hI) (fun r S1 h => ?_) fun _ _ z => z
      cases r with
      | none => exact ih (i + 1) acc S1 (by omega) h
      | some v =>
        obtain ⟨y, S2, e1, e2, e3, h⟩ := h
        simp only [e1, e2, if_pos e3]
        exact ih (i + 1) _ _ (by omega) h
  exact key items.length 0 [] S (by omega) h0
/-- a comprehension that changes nothing -/
theorem wp_lcL_pure {step : T → Store → R (Option RV)} {P : Unit → Store → Prop} {S1 : Store} {n : Nat} (f : T → Option T) (hn : S1.length = n) (hst : ∀ acc, stands w (S1 ++ [.lst acc])) (hl : items.length ≤ sizeLine)
    (hs : ∀ x ∈ items, ∀ acc, (step x (S1 ++ [.lst acc])).wp (fun r S2 => r = (f x).map RV.t ∧ S2 = S1 ++ [.lst acc]) nE)
    (he : P () (S1 ++ [.lst (items.filterMap f)])) : (lcL w n step items (S1 ++ [.lst []])).wp P E := by
  refine wp_lcL (fun i acc S => acc = (items.take i).filterMap f ∧ S = S1 ++ [.lst acc]) ⟨rfl, rfl⟩ (fun i acc S _ ⟨_, e⟩ => e ▸ hst acc) (fun i x acc S hx ⟨e1, e2⟩ => ?_) (fun acc S ⟨e1, e2⟩ => ?_)
  · subst e2
    have hlt : i < items.length := (List.getElem?_eq_some_iff.mp hx).1
    have ht : items.take (i + 1) = items.take i ++ [x] := by rw [List.take_add_one, hx]; rfl
    refine wp_use (hs x (List.mem_of_getElem? hx) acc) fun r S2 ⟨er, es⟩ => ?_
    subst er es
    cases ef : f x with
    | none =>
      refine ⟨?_, rfl⟩
      rw [ht, List.filterMap_append, ← e1]
      simp [ef]
    | some y =>
      refine ⟨y, _, rfl, by simp [hn], ?_, ?_, by simp [hn]⟩
      · rw [e1]
        have := List.length_filterMap_le f (items.take i)
        rw [List.length_take] at this
        omega
      · rw [ht, List.filterMap_append, ← e1]
        simp [ef]
  · subst e2
    rw [e1, List.take_length]
    exact he
theorem wp_lcL_pure' {step : T → Store → R (Option RV)} {P : Unit → Store → Prop} {Sx : Store} {n : Nat} (S1 : Store) (f : T → Option T) (hx : Sx = S1 ++ [.lst []]) (hn : S1.length = n) (hst : ∀ acc, stands w (S1 ++ [.lst acc])) (hl : items.length ≤ sizeLine)
    (hs : ∀ x ∈ items, ∀ acc, (step x (S1 ++ [.lst acc])).wp (fun r S2 => r = (f x).map RV.t ∧ S2 = S1 ++ [.lst acc]) nE)
    (he : P () (S1 ++ [.lst (items.filterMap f)])) : (lcL w n step items Sx).wp P E := hx ▸ wp_lcL_pure f hn hst hl hs he
@[simp] theorem stands_nil : stands [] S = True := by simp [stands]
@[simp] theorem stands_cons {i : Nat} {x : T} : stands ((i, x) :: w) S = (vw S (.o i) = some x ∧ stands w S) := by simp [stands]
@[simp] theorem wat_t {y x : T} : wat (.t y) x = [] := rfl
@[simp] theorem wat_o {i : Nat} {x : T} : wat (.o i) x = [(i, x)] := rfl
end
/-! ### places -/
section
variable {α : Type} {x y z : α} {r : List α} {n : Nat}
theorem atI_0 : atI (x :: r) 0 = some x := by simp [atI, ixN]
theorem atI_1 : atI (x :: y :: r) 1 = some y := by
  unfold atI ixN
  rw [if_pos (by decide), if_pos (by simp only [List.length_cons]; omega)]
  rfl
theorem atI_2 : atI (x :: y :: z :: r) 2 = some z := by
  unfold atI ixN
  rw [if_pos (by decide), if_pos (by simp only [List.length_cons]; omega)]
  rfl
theorem atI_m {i : Int} {xs : List α} (h0 : 0 ≤ i) (h1 : i < xs.length) : atI xs i = xs[i.toNat]? := by
  unfold atI ixN
  rw [if_pos h0, if_pos h1]
  rfl
theorem ixN_0 : ixN (n + 1) 0 = some 0 := by
  unfold ixN
  rw [if_pos (by decide), if_pos (by omega)]
  rfl
theorem ixN_1 : ixN (n + 2) 1 = some 1 := by
  unfold ixN
  rw [if_pos (by decide), if_pos (by omega)]
  rfl
end
end PV

set_option maxRecDepth 100000
/-! ## 12. Texts of signs that are such -/
namespace PV
open PySem L2
/-- a text of at most n signs -/
def Tx (n : Nat) (s : Str) : Prop := PyData.strOk s = true ∧ s.length ≤ n
theorem tx_all {s : Str} : PyData.strOk s = true ↔ ∀ c ∈ s.cps.toList, c < 0x110000 := by
  unfold PyData.strOk
  rw [← Array.all_toList, List.all_eq_true]
  simp
theorem str_len (s : Str) : s.length = s.cps.toList.length := by
  unfold PySem.Str.length
  simp
theorem cps_app (x y : Str) : (x ++ y).cps.toList = x.cps.toList ++ y.cps.toList := by
  show (x.cps ++ y.cps).toList = _
  simp
theorem cps_cut (s : Str) (lo hi : Option Int) : (cutS s lo hi).cps.toList = (s.cps.toList.drop (HT.sIx s.length 0 lo)).take (HT.sIx s.length s.length hi - HT.sIx s.length 0 lo) := by
  unfold cutS
  simp
theorem Tx.mono {a b : Nat} {s : Str} (h : Tx a s) (hab : a ≤ b) : Tx b s := ⟨h.1, Nat.le_trans h.2 hab⟩
theorem tx_app {a b : Nat} {x y : Str} (hx : Tx a x) (hy : Tx b y) : Tx (a + b) (x ++ y) := by
  refine ⟨?_, ?_⟩
  · rw [tx_all, cps_app]
    intro c hc
    rcases List.mem_append.mp hc with h | h
    · exact tx_all.mp hx.1 c h
    · exact tx_all.mp hy.1 c h
  · rw [str_len, cps_app, List.length_append, ← str_len, ← str_len]
    exact Nat.add_le_add hx.2 hy.2
theorem tx_cut {n : Nat} {s : Str} (h : Tx n s) (lo hi : Option Int) : Tx n (cutS s lo hi) := by
  refine ⟨?_, ?_⟩
  · rw [tx_all, cps_cut]
    intro c hc
    exact tx_all.mp h.1 c (List.mem_of_mem_drop (List.mem_of_mem_take hc))
  · rw [str_len, cps_cut, List.length_take, List.length_drop, ← str_len]
    have := h.2
    omega
theorem tx_join : ∀ {ss : List Str}, (∀ s ∈ ss, Tx 1 s) → Tx ss.length (Txt.join (Str.ofString "") ss) := by
  intro ss h
  rw [TL.join_eq]
  induction ss with
  | nil => exact ⟨by decide +kernel, by decide +kernel⟩
  | cons x r ih =>
    cases r with
    | nil => exact h x (List.mem_singleton.mpr rfl)
    | cons y r =>
      have h1 : Tx 1 x := h x (.head _)
      have h2 := ih fun s hs => h s (.tail _ hs)
      have h0 : Tx 0 (Str.ofString "") := ⟨by decide +kernel, by decide +kernel⟩
      show Tx _ (x ++ Str.ofString "" ++ Str.join (Str.ofString "") (y :: r))
      refine (tx_app (tx_app h1 h0) h2).mono ?_
      simp only [List.length_cons]
      omega
theorem tx_size {n : Nat} {s : Str} (h : Tx n s) (hn : n ≤ 1000) : s.length ≤ sizeLine := Nat.le_trans h.2 (Nat.le_of_lt (small1000 hn))
theorem tx_size2 {n m : Nat} {s z : Str} (h : Tx n s) (h' : Tx m z) (hn : n + m ≤ 1000) : s.length + z.length ≤ sizeLine := Nat.le_trans (Nat.add_le_add h.2 h'.2) (Nat.le_of_lt (small1000 hn))
abbrev abc : Str := Str.ofString "abcdefghijklmnopqrstuvwxyz"
theorem abc_len : abc.length = 26 := by decide
theorem abc_all : ((List.range 26).all fun r => match strAt abc (r : Int) with
    | some z => PyData.strOk z && decide (z.length ≤ 1)
    | none => false) = true := by decide +kernel
theorem abc_at {r : Int} (h0 : 0 ≤ r) (h1 : r < 26) : ∃ z, strAt abc r = some z ∧ Tx 1 z := by
  have h := List.all_eq_true.mp abc_all r.toNat (List.mem_range.mpr (by omega))
  rw [Int.toNat_of_nonneg h0] at h
  split at h
  · rename_i z e
    rw [Bool.and_eq_true, decide_eq_true_eq] at h
    exact ⟨z, e, h⟩
  · cases h
end PV

set_option maxRecDepth 100000
set_option maxHeartbeats 1000000
/-! ## 13. Facts that many laws want -/
namespace PV
open PySem L2
theorem mod_lt' (a : Int) {b : Int} (h : 0 < b) : a % b < b := Int.emod_lt_of_pos _ h
theorem mod_nn (a : Int) {b : Int} (h : 0 < b) : 0 ≤ a % b := Int.emod_nonneg _ (by omega)
theorem zle {n : Nat} (h : n ≤ 1000) : n ≤ sizeLine := Nat.le_of_lt (small1000 h)
theorem at_ints {ns : List Int} {j : Int} (h0 : 0 ≤ j) (h1 : j < ns.length) : ∃ x, atI (ns.map T.int) j = some (.int x) := by
  have hl : j.toNat < ns.length := by omega
  refine ⟨ns[j.toNat], ?_⟩
  rw [atI_m h0 (by rw [List.length_map]; exact h1), List.getElem?_map, List.getElem?_eq_getElem hl]
  rfl
/-- a list's item, by f -/
theorem at_mapI {α : Type} {f : α → T} {ls : List α} {j : Int} (h0 : 0 ≤ j) (h1 : j < ls.length) : ∃ x ∈ ls, ls[j.toNat]? = some x ∧ atI (ls.map f) j = some (f x) := by
  have hl : j.toNat < ls.length := by omega
  refine ⟨ls[j.toNat], List.getElem_mem hl, List.getElem?_eq_getElem hl, ?_⟩
  rw [atI_m h0 (by rw [List.length_map]; exact h1), List.getElem?_map, List.getElem?_eq_getElem hl]
  rfl
theorem at_strs {ss : List Str} {r : Int} (h0 : 0 ≤ r) (h1 : r < ss.length) : ∃ z ∈ ss, atI (ss.map T.str) r = some (.str z) := by
  obtain ⟨x, h, _, e⟩ := at_mapI (f := T.str) h0 h1
  exact ⟨x, h, e⟩
theorem mulOk_ab {i j : Int} (h1 : i.natAbs < 2 ^ 240) (h2 : j.natAbs < 2 ^ 240) : mulOk i j = true := by
  unfold mulOk
  rw [decide_eq_true_eq]
  constructor <;> omega
theorem at_row {r : List Int} {i : Int} (h0 : 0 ≤ i) (h1 : i < r.length) : atI (r.map T.int) i = some (.int (r.getD i.toNat 0)) := by
  have hl : i.toNat < r.length := by omega
  rw [atI_m h0 (by rw [List.length_map]; exact h1), List.getElem?_map, List.getElem?_eq_getElem hl, List.getD_eq_getElem?_getD, List.getElem?_eq_getElem hl]
  rfl
theorem at_last {r : List Int} (h : 0 < r.length) : atI (r.map T.int) (-1) = some (.int (r.getD (r.length - 1) 0)) := by
  have hl : r.length - 1 < r.length := by omega
  unfold atI ixN
  rw [if_neg (by decide), if_pos (by rw [List.length_map]; omega), List.length_map]
  simp -implicitDefEqProofs only [Option.bind_some]
  rw [show ((-1 : Int) + (r.length : Int)).toNat = r.length - 1 by omega, List.getElem?_map, List.getElem?_eq_getElem hl, List.getD_eq_getElem?_getD, List.getElem?_eq_getElem hl]
  rfl
theorem at2 {a b : T} {r : Int} (h0 : 0 ≤ r) (h1 : r < 2) : ∃ y, atI [a, b] r = some y ∧ (y = a ∨ y = b) := by
  rcases (show r = 0 ∨ r = 1 by omega) with rfl | rfl
  · exact ⟨a, rfl, .inl rfl⟩
  · exact ⟨b, rfl, .inr rfl⟩
theorem at2i {a b r : Int} (h0 : 0 ≤ r) (h1 : r < 2) : ∃ y, atI [T.int a, T.int b] r = some (.int y) ∧ (y = a ∨ y = b) := by
  rcases (show r = 0 ∨ r = 1 by omega) with rfl | rfl
  · exact ⟨a, rfl, .inl rfl⟩
  · exact ⟨b, rfl, .inr rfl⟩
theorem at3i {a b c r : Int} (h0 : 0 ≤ r) (h1 : r < 3) : ∃ y, atI [T.int a, T.int b, T.int c] r = some (.int y) ∧ (y = a ∨ y = b ∨ y = c) := by
  rcases (show r = 0 ∨ r = 1 ∨ r = 2 by omega) with rfl | rfl | rfl
  · exact ⟨a, rfl, .inl rfl⟩
  · exact ⟨b, rfl, .inr (.inl rfl)⟩
  · exact ⟨c, rfl, .inr (.inr rfl)⟩
theorem at4i {a b c d r : Int} (h0 : 0 ≤ r) (h1 : r < 4) : ∃ y, atI [T.int a, T.int b, T.int c, T.int d] r = some (.int y) ∧ (y = a ∨ y = b ∨ y = c ∨ y = d) := by
  rcases (show r = 0 ∨ r = 1 ∨ r = 2 ∨ r = 3 by omega) with rfl | rfl | rfl | rfl
  · exact ⟨a, rfl, .inl rfl⟩
  · exact ⟨b, rfl, .inr (.inl rfl)⟩
  · exact ⟨c, rfl, .inr (.inr (.inl rfl))⟩
  · exact ⟨d, rfl, .inr (.inr (.inr rfl))⟩
theorem range_mem {lo : Int} {n : Nat} {x : T} (h : x ∈ rangeT lo n) : ∃ i : Nat, i < n ∧ x = .int (lo + i) := by
  unfold rangeT at h
  obtain ⟨i, hi, rfl⟩ := List.mem_map.mp h
  exact ⟨i, List.mem_range.mp hi, rfl⟩
theorem range_get {lo : Int} {n i : Nat} {x : T} (h : (rangeT lo n)[i]? = some x) : i < n ∧ x = .int (lo + i) := by
  unfold rangeT at h
  rw [List.getElem?_map] at h
  by_cases hi : i < n
  · rw [List.getElem?_range hi] at h
    exact ⟨hi, (Option.some.inj h).symm⟩
  · rw [List.getElem?_eq_none (by rw [List.length_range]; omega)] at h
    cases h
theorem range_length {lo : Int} {n : Nat} : (rangeT lo n).length = n := by unfold rangeT; rw [List.length_map, List.length_range]
theorem map_get {α : Type} {f : α → T} {ls : List α} {i : Nat} {x : T} (h : (ls.map f)[i]? = some x) : ∃ y, ls[i]? = some y ∧ x = f y := by
  rw [List.getElem?_map] at h
  cases e : ls[i]? with
  | none => rw [e] at h; cases h
  | some y => rw [e] at h; exact ⟨y, rfl, (Option.some.inj h).symm⟩
theorem take_snoc {α : Type} {ls : List α} {i : Nat} {y : α} (h : ls[i]? = some y) : ls.take (i + 1) = ls.take i ++ [y] := by rw [List.take_add_one, h]; rfl
theorem strs_some (ss : List Str) : strs? (ss.map T.str) = some ss := by
  induction ss with
  | nil => rfl
  | cons x r ih => rw [List.map_cons, strs?, ih]; rfl
theorem ints_some (l : List Int) : ints? (l.map T.int) = some l := by
  induction l with
  | nil => rfl
  | cons x l ih => rw [List.map_cons, ints?, ih]; rfl
theorem bls_some (l : List Bool) : bls? (l.map T.bl) = some l := by
  induction l with
  | nil => rfl
  | cons x l ih => rw [List.map_cons, bls?, ih]; rfl
theorem tups_some (l : List (List T)) : tups? (l.map T.tup) = some l := by
  induction l with
  | nil => rfl
  | cons x l ih => rw [List.map_cons, tups?, ih]; rfl
theorem sum_len {ss : List Str} (h : ∀ s ∈ ss, Tx 1 s) : (ss.map (·.length)).sum ≤ ss.length := by
  induction ss with
  | nil => exact Nat.le_refl _
  | cons x r ih =>
    have h1 := (h x (.head _)).2
    have h2 := ih fun s hs => h s (.tail _ hs)
    rw [List.map_cons, List.sum_cons, List.length_cons]
    omega
theorem cut_from {xs : List T} {i : Int} (h0 : 0 ≤ i) (h1 : i ≤ xs.length) : cutT xs (some i) none = xs.drop i.toNat := by
  unfold cutT
  have e : HT.sIx xs.length 0 (some i) = i.toNat := by
    unfold HT.sIx
    simp only
    rw [if_neg (by omega)]
    omega
  rw [e, HT.sIx_none, List.take_of_length_le (by rw [List.length_drop]; omega)]
theorem cut_take {ss : List T} {n : Int} (h0 : 0 ≤ n) : cutT ss none (some n) = ss.take n.toNat := by
  unfold cutT
  obtain ⟨m, rfl⟩ := Int.eq_ofNat_of_zero_le h0
  rw [HT.sIx_none, HT.sIx_nat, List.drop_zero, Nat.sub_zero, Int.toNat_natCast]
  by_cases h : m ≤ ss.length
  · rw [Nat.min_eq_left h]
  · rw [Nat.min_eq_right (by omega), List.take_length, List.take_of_length_le (by omega)]
theorem bls_true : ∀ l : List T, bls? (l.filterMap fun _ => some (T.bl true)) = some (l.map fun _ => true)
  | [] => rfl
  | x :: l => by
    show (bls? (l.filterMap fun _ => some (T.bl true))).map (true :: ·) = _
    rw [bls_true l]; rfl
theorem all_true (l : List T) : ((l.map fun _ => true).all id) = true := by
  rw [List.all_eq_true]
  intro x hx
  obtain ⟨_, _, rfl⟩ := List.mem_map.mp hx
  rfl
mutual
theorem teq_low : ∀ (x : T) (n : Nat), low n x = true → teq x x = true
  | .non, _, _ => rfl
  | .bl b, _, _ => by simp [teq]
  | .int i, _, _ => by simp [teq]
  | .str s, _, _ => by simp [teq]
  | .lst xs, n, h => by
    rw [low] at h
    rw [teq]
    exact teqs_low xs n h
  | .tup xs, n, h => by
    rw [low] at h
    rw [teq]
    exact teqs_low xs n h
  | .dic _, _, h => by simp [low] at h
  | .rol _, _, h => by simp [low] at h
  | .exn _, _, h => by simp [low] at h
theorem teqs_low : ∀ (xs : List T) (n : Nat), lows n xs = true → teqs xs xs = true
  | [], _, _ => rfl
  | x :: xs, 0, h => by simp [lows] at h
  | x :: xs, n + 1, h => by
    rw [lows, Bool.and_eq_true] at h
    rw [teqs, teq_low x n h.1, teqs_low xs (n + 1) h.2]
    rfl
end
theorem lows_all {n : Nat} : ∀ {xs : List T}, (∀ x ∈ xs, low n x = true) → lows (n + 1) xs = true
  | [], _ => by simp [lows]
  | x :: xs, h => by
    rw [lows, h x (.head _), lows_all fun y hy => h y (.tail _ hy)]
    rfl
theorem low_lst {n : Nat} {xs : List T} (h : ∀ x ∈ xs, low n x = true) : low (n + 1) (.lst xs) = true := by rw [low]; exact lows_all h
theorem low_tup {n : Nat} {xs : List T} (h : ∀ x ∈ xs, low n x = true) : low (n + 1) (.tup xs) = true := by rw [low]; exact lows_all h
/-- two things that are one are equal -/
theorem eqT_same {x : T} (h : low 60 x = true) : eqT x x = some true := by
  unfold eqT
  rw [h, teq_low x 60 h]
  simp
theorem eqT_low {x y : T} (h : low 60 x = true) (h' : low 60 y = true) : eqT x y = some (teq x y) := by
  unfold eqT
  rw [h, h']
  simp
/-- a suite behind its first n statements -/
def dropS : Nat → Ss → Ss
  | 0, r => r
  | n + 1, .cons _ r => dropS n r
  | _ + 1, .nil => .nil
/-- a suite's first n statements, and r behind them -/
def joinS : Nat → Ss → Ss → Ss
  | 0, _, r => r
  | n + 1, .cons a b, r => .cons a (joinS n b r)
  | _ + 1, .nil, r => r
theorem set_same {B : Store} {p : Nat} {x : SO} (h : B[p]? = some x) : B.set p x = B := by
  refine List.ext_getElem? fun i => ?_
  rw [List.getElem?_set]
  split
  · rename_i e
    subst e
    rw [h, if_pos (lt_of_at h)]
  · rfl
end PV

set_option maxRecDepth 100000
namespace K04
open L2 PV PyProof.Rows PySem.Spec PySem
/-! ### the defs in the small language -/
/-- is_whole(thing): slots 0 thing -/
def f_is_whole : Fn := ⟨1, 1,
    (.cons (.ret (.and (.op1 (.isi ["int"]) (.var 0)) (.not (.op1 (.isi ["bool"]) (.var 0))))) .nil)⟩
/-- is_below(thing, many): slots 0 thing, 1 many -/
def f_is_below : Fn := ⟨2, 2,
    (.cons (.ret (.and (.call "is_whole" (.cons (.var 0) .nil)) (.chain .le .lt (.cst (.int 0)) (.var 0) (.var 1)))) .nil)⟩
/-- put_in(card, place, stamp): slots 0 card, 1 place, 2 stamp -/
def f_put_in : Fn := ⟨3, 3,
    (.cons (.ite (.not (.call "is_below" (.cons (.var 1) (.cons (.op2 .add (.op1 .len (.var 0)) (.cst (.int 1))) .nil))))
      (.cons (.raise "NoPlace") .nil)
      .nil) (.cons (.ite (.op2 .ge (.op1 .len (.var 0)) (.glb "MOST_STAMPS"))
      (.cons (.raise "Full") .nil)
      .nil) (.cons (.ret (.op2 .add (.op2 .add (.op2 .sto (.var 0) (.var 1)) (.tup (.cons (.var 2) .nil))) (.op2 .sfrom (.var 0) (.var 1)))) .nil)))⟩
/-- take_out(card, place): slots 0 card, 1 place -/
def f_take_out : Fn := ⟨2, 2,
    (.cons (.ite (.not (.call "is_below" (.cons (.var 1) (.cons (.op1 .len (.var 0)) .nil))))
      (.cons (.raise "NoPlace") .nil)
      .nil) (.cons (.ret (.op2 .add (.op2 .sto (.var 0) (.var 1)) (.op2 .sfrom (.var 0) (.op2 .add (.var 1) (.cst (.int 1)))))) .nil))⟩
/-- _law_pen(script, k): slots 0 script, 1 k, 2 cell -/
def g_law_pen : Fn := ⟨2, 3,
    (.cons (.asg (.nm 2) (.op2 .add (.cst (.int 7)) (.op2 .mul (.cst (.int 31)) (.var 1)))) (.cons (.ite (.op2 .lt (.var 1) (.op1 .len (.var 0)))
      (.cons (.asg (.nm 2) (.op2 .idx (.var 0) (.var 1))) .nil)
      .nil) (.cons (.ite (.op2 .ge (.var 2) (.op2 .pow (.cst (.int 10)) (.cst (.int 18))))
      (.cons (.ret (.lst (.cons (.op2 .sub (.var 2) (.op2 .pow (.cst (.int 10)) (.cst (.int 18)))) (.cons (.cst (.int 0)) .nil)))) .nil)
      .nil) (.cons (.ret (.lst (.cons (.op2 .mod (.op2 .mul (.op2 .add (.op2 .add (.op2 .mod (.var 2) (.cst (.int 2147483629))) (.op2 .mul (.cst (.int 40503)) (.var 1))) (.cst (.int 1))) (.cst (.int 48271))) (.cst (.int 2147483647))) (.cons (.cst (.int 1)) .nil)))) .nil))))⟩
/-- _law_take(pen, many): slots 0 pen, 1 many, 2 second, 3 digit -/
def g_law_take : Fn := ⟨2, 4,
    (.cons (.ite (.and (.op2 .eq (.op2 .idx (.var 0) (.cst (.int 1))) (.cst (.int 0))) (.op2 .gt (.op2 .idx (.var 0) (.cst (.int 0))) (.cst (.int 0))))
      (.cons (.asg (.nm 3) (.op2 .mod (.op2 .idx (.var 0) (.cst (.int 0))) (.var 1))) (.cons (.sset (.var 0) (.cst (.int 0)) (.op2 .fdiv (.op2 .idx (.var 0) (.cst (.int 0))) (.var 1))) (.cons (.ret (.var 3)) .nil)))
      .nil) (.cons (.ite (.op2 .eq (.op2 .idx (.var 0) (.cst (.int 1))) (.cst (.int 0)))
      (.cons (.sset (.var 0) (.cst (.int 0)) (.cst (.int 65537))) (.cons (.sset (.var 0) (.cst (.int 1)) (.cst (.int 1))) .nil))
      .nil) (.cons (.sset (.var 0) (.cst (.int 0)) (.op2 .mod (.op2 .add (.op2 .mul (.op2 .idx (.var 0) (.cst (.int 0))) (.cst (.int 69621))) (.cst (.int 12345))) (.cst (.int 2147483629)))) (.cons (.asg (.nm 2) (.op2 .mod (.op2 .mul (.op2 .idx (.var 0) (.cst (.int 0))) (.op2 .add (.op2 .mod (.op2 .idx (.var 0) (.cst (.int 0))) (.cst (.int 65519))) (.cst (.int 3)))) (.cst (.int 2147483587)))) (.cons (.ret (.op2 .mod (.op2 .fdiv (.var 2) (.cst (.int 7))) (.var 1))) .nil)))))⟩
/-- _law_names(pen, many): slots 0 pen, 1 many, 2 letters, 3 way, 4 base, 5 size, 6 spot, 7 first, 8 names, 9 k, 10 sign -/
def g_law_names : Fn := ⟨2, 11,
    (.cons (.asg (.nm 2) (.cst (.str "abcdefghijklmnopqrstuvwxyz"))) (.cons (.asg (.nm 3) (.call "_law_take" (.cons (.var 0) (.cons (.cst (.int 2)) .nil)))) (.cons (.asg (.nm 4) (.op2 .join (.cst (.str "")) (.comp [9] (.op2 .idx (.var 2) (.call "_law_take" (.cons (.var 0) (.cons (.cst (.int 26)) .nil)))) (.nm 9) (.one .range (.cst (.int 8))) (.cst (.bl true))))) (.cons (.asg (.nm 5) (.op2 .add (.cst (.int 1)) (.call "_law_take" (.cons (.var 0) (.cons (.cst (.int 8)) .nil))))) (.cons (.asg (.nm 6) (.call "_law_take" (.cons (.var 0) (.cons (.var 5) .nil)))) (.cons (.asg (.nm 7) (.call "_law_take" (.cons (.var 0) (.cons (.cst (.int 26)) .nil)))) (.cons (.asg (.nm 8) (.op0 .lst)) (.cons (.for_ (.nm 9) (.one .range (.var 1))
      (.cons (.ite (.op2 .eq (.var 3) (.cst (.int 1)))
      (.cons (.ex (.op2 .append (.var 8) (.op2 .sto (.var 4) (.op2 .add (.cst (.int 1)) (.op2 .mod (.op2 .add (.var 5) (.var 9)) (.cst (.int 8))))))) .nil)
      (.cons (.asg (.nm 10) (.op2 .idx (.var 2) (.op2 .mod (.op2 .add (.var 7) (.var 9)) (.cst (.int 26))))) (.cons (.ex (.op2 .append (.var 8) (.op2 .add (.op2 .add (.op2 .sto (.var 4) (.var 6)) (.var 10)) (.op3 .slice (.var 4) (.op2 .add (.var 6) (.cst (.int 1))) (.var 5))))) .nil))) .nil)) (.cons (.ret (.var 8)) .nil)))))))))⟩
/-- _law_word_of(e): slots 0 e, 1 some, 2 found, 3 held, 4 word -/
def g_law_word_of : Fn := ⟨1, 5,
    (.cons (.asg (.nm 1) (.lst (.cons (.tup (.cons (.op1 (.ise ["NoPlace", "Full"] ["NoPlace"]) (.var 0)) (.cons (.cst (.str "place")) .nil))) (.cons (.tup (.cons (.op1 (.ise ["NoPlace", "Full"] ["Full"]) (.var 0)) (.cons (.cst (.str "full")) .nil))) .nil)))) (.cons (.ite (.op1 (.ise ["NoPlace", "Full"] ["Lacking", "NoChoice", "NoClass", "NoCourse", "NoNumber", "NoPage"]) (.var 0))
      (.cons (.ret (.cst (.str "other"))) .nil)
      .nil) (.cons (.ite (.or (.op1 (.ise ["NoPlace", "Full"] ["NoRow", "NoRunner", "NoText", "Ringed", "Unlike"]) (.var 0)) (.not (.op1 (.ise ["NoPlace", "Full"] ["ValueError"]) (.var 0))))
      (.cons (.ret (.cst (.str "other"))) .nil)
      .nil) (.cons (.asg (.nm 2) (.comp [3, 4] (.var 4) (.tp [3, 4]) (.one .val (.var 1)) (.var 3))) (.cons (.ite (.op2 .ne (.op1 .len (.var 2)) (.cst (.int 1)))
      (.cons (.ret (.cst (.str "other"))) .nil)
      .nil) (.cons (.ret (.op2 .idx (.var 2) (.cst (.int 0)))) .nil))))))⟩
/-- _law_told(card, place): slots 0 card, 1 place, 2 caught, 3 found, 4 e -/
def g_law_told : Fn := ⟨2, 5,
    (.cons (.asg (.nm 2) (.cst .non)) (.cons (.asg (.nm 3) (.cst .non)) (.cons (.tryK
      (.cons (.asg (.nm 3) (.call "take_out" (.cons (.var 0) (.cons (.var 1) .nil)))) .nil) ["NoPlace", "Full"] "RunError" 4 2) (.cons (.ite (.op2 .notn (.var 2) (.cst .non))
      (.cons (.ret (.call "_law_word_of" (.cons (.var 2) .nil))) .nil)
      .nil) (.cons (.ret (.var 3)) .nil)))))⟩
/-- _law_odd(pen, many): slots 0 pen, 1 many, 2 some -/
def g_law_odd : Fn := ⟨2, 3,
    (.cons (.asg (.nm 2) (.lst (.cons (.op1 .neg (.cst (.int 1))) (.cons (.var 1) (.cons (.op2 .add (.var 1) (.cst (.int 7))) (.cons (.op2 .sub (.op2 .pow (.cst (.int 10)) (.cst (.int 30))) (.cst (.int 1))) (.cons (.op2 .sub (.cst (.int 1)) (.op2 .pow (.cst (.int 10)) (.cst (.int 30)))) (.cons (.cst (.bl true)) (.cons (.cst (.bl false)) (.cons (.cst .non) (.cons (.cst (.str "0")) (.cons (.lst (.cons (.cst (.int 0)) .nil)) (.cons (.tup (.cons (.cst (.int 0)) .nil)) .nil))))))))))))) (.cons (.ret (.op2 .idx (.var 2) (.call "_law_take" (.cons (.var 0) (.cons (.cst (.int 11)) .nil))))) .nil))⟩
/-- law(script): slots 0 script, 1 names, 2 card, 3 stamps, 4 held, 5 k, 6 pen, 7 way, 8 told, 9 expected, 10 at, 11 how -/
def f_law : Fn := ⟨1, 12,
    (.cons (.asg (.nm 1) (.call "_law_names" (.cons (.call "_law_pen" (.cons (.var 0) (.cons (.cst (.int 0)) .nil))) (.cons (.cst (.int 4)) .nil)))) (.cons (.asg (.nm 2) (.tup .nil)) (.cons (.asg (.nm 3) (.op0 .lst)) (.cons (.asg (.nm 4) (.op0 .lst)) (.cons (.for_ (.nm 5) (.one .range (.op2 .max2 (.cst (.int 1)) (.op2 .min2 (.cst (.int 40)) (.op2 .sub (.op1 .len (.var 0)) (.cst (.int 1))))))
      (.cons (.asg (.nm 6) (.call "_law_pen" (.cons (.var 0) (.cons (.op2 .add (.cst (.int 1)) (.var 5)) .nil)))) (.cons (.asg (.nm 7) (.call "_law_take" (.cons (.var 6) (.cons (.cst (.int 4)) .nil)))) (.cons (.ite (.and (.op2 .eq (.var 7) (.cst (.int 0))) (.op2 .ne (.var 3) (.op0 .lst)))
      (.cons (.asg (.nm 10) (.call "_law_take" (.cons (.var 6) (.cons (.op1 .len (.var 3)) .nil)))) (.cons (.ex (.op2 .popAt (.var 3) (.var 10))) (.cons (.asg (.nm 2) (.call "take_out" (.cons (.var 2) (.cons (.var 10) .nil)))) .nil)))
      (.cons (.ite (.or (.op2 .eq (.var 7) (.cst (.int 1))) (.op2 .eq (.op1 .len (.var 3)) (.cst (.int 24))))
      (.cons (.ite (.op2 .ne (.call "_law_told" (.cons (.var 2) (.cons (.call "_law_odd" (.cons (.var 6) (.cons (.op1 .len (.var 3)) .nil))) .nil))) (.cst (.str "place")))
      (.cons (.ret (.cst (.bl false))) .nil)
      .nil) .nil)
      (.cons (.asg (.nm 10) (.call "_law_take" (.cons (.var 6) (.cons (.op2 .add (.op1 .len (.var 3)) (.cst (.int 1))) .nil)))) (.cons (.asg (.nm 11) (.op2 .idx (.lst (.cons (.cst (.str "box")) (.cons (.cst (.str "sworn")) .nil))) (.call "_law_take" (.cons (.var 6) (.cons (.cst (.int 2)) .nil))))) (.cons (.ex (.op3 .insert (.var 3) (.var 10) (.tup (.cons (.op2 .idx (.var 1) (.call "_law_take" (.cons (.var 6) (.cons (.cst (.int 4)) .nil)))) (.cons (.op2 .sub (.call "_law_take" (.cons (.var 6) (.cons (.op2 .pow (.cst (.int 10)) (.cst (.int 9))) .nil))) (.op2 .pow (.cst (.int 10)) (.cst (.int 8)))) (.cons (.var 11) .nil)))))) (.cons (.asg (.nm 2) (.call "put_in" (.cons (.var 2) (.cons (.var 10) (.cons (.op2 .idx (.var 3) (.var 10)) .nil))))) .nil))))) .nil)) (.cons (.ex (.op2 .append (.var 4) (.tup (.cons (.var 2) (.cons (.op1 .list_ (.var 3)) .nil))))) (.cons (.ite (.or (.not (.op1 (.isi ["tuple"]) (.var 2))) (.op2 .ne (.op1 .list_ (.var 2)) (.var 3)))
      (.cons (.ret (.cst (.bl false))) .nil)
      .nil) .nil)))))) (.cons (.for_ (.tp [8, 9]) (.one .val (.var 4))
      (.cons (.ite (.op2 .ne (.op1 .list_ (.var 8)) (.var 9))
      (.cons (.ret (.cst (.bl false))) .nil)
      .nil) .nil)) (.cons (.ret (.cst (.bl true))) .nil)))))))⟩
def tabs : Tabs where
  fns := [("is_whole", f_is_whole), ("is_below", f_is_below), ("put_in", f_put_in), ("take_out", f_take_out), ("_law_pen", g_law_pen), ("_law_take", g_law_take), ("_law_names", g_law_names), ("_law_word_of", g_law_word_of), ("_law_told", g_law_told), ("_law_odd", g_law_odd), ("law", f_law)]
  glb := [("MOST_STAMPS", (.int 24))]
  exc := ["NoPlace", "Full"]
  cls := ["RunError", "NoPlace", "Full", "NoCourse", "NoChoice", "Unlike", "NoPage", "NoNumber", "NoRunner", "NoClass", "Lacking", "NoText", "NoRow", "Ringed", "ValueError"]
theorem d_f_is_whole : List.lookup "is_whole" tabs.fns = some f_is_whole := rfl
theorem d_f_is_below : List.lookup "is_below" tabs.fns = some f_is_below := rfl
theorem d_f_put_in : List.lookup "put_in" tabs.fns = some f_put_in := rfl
theorem d_f_take_out : List.lookup "take_out" tabs.fns = some f_take_out := rfl
theorem d_g_law_pen : List.lookup "_law_pen" tabs.fns = some g_law_pen := rfl
theorem d_g_law_take : List.lookup "_law_take" tabs.fns = some g_law_take := rfl
theorem d_g_law_names : List.lookup "_law_names" tabs.fns = some g_law_names := rfl
theorem d_g_law_word_of : List.lookup "_law_word_of" tabs.fns = some g_law_word_of := rfl
theorem d_g_law_told : List.lookup "_law_told" tabs.fns = some g_law_told := rfl
theorem d_g_law_odd : List.lookup "_law_odd" tabs.fns = some g_law_odd := rfl
theorem d_f_law : List.lookup "law" tabs.fns = some f_law := rfl
theorem glb_MOST_STAMPS : List.lookup "MOST_STAMPS" tabs.glb = some (.int 24) := rfl
noncomputable abbrev C (k : Nat) := callF tabs.G tabs.Δ k
end K04


set_option maxRecDepth 100000
set_option maxHeartbeats 400000
namespace K04
open PySem PV L2
/-- a pen's two numbers -/
def PenOk (c m : Int) : Prop := 0 ≤ c ∧ (m = 0 ∨ m = 1 ∧ c < 2147483647)
theorem mulOk_of {i j : Int} (h1 : 0 ≤ i) (h2 : i < 2 ^ 200) (h3 : 0 ≤ j) (h4 : j < 2 ^ 200) : mulOk i j = true := by
  unfold mulOk
  rw [decide_eq_true_eq]
  constructor <;> omega
theorem penOk_new (a : Int) : PenOk (a % 2147483629) 1 := by
  have h1 := mod_lt' a (b := 2147483629) (by decide)
  have h2 := mod_nn a (b := 2147483629) (by decide)
  exact ⟨h2, .inr ⟨rfl, by omega⟩⟩
theorem mulOk_pen (a : Int) : mulOk (a % 2147483629) (a % 2147483629 % 65519 + 3) = true := by
  have h1 := mod_lt' a (b := 2147483629) (by decide)
  have h2 := mod_nn a (b := 2147483629) (by decide)
  have h3 := mod_lt' (a % 2147483629) (b := 65519) (by decide)
  have h4 := mod_nn (a % 2147483629) (b := 65519) (by decide)
  exact mulOk_of h2 (by omega) (by omega) (by omega)
theorem take_ok {k : Nat} {S : Store} {p : Nat} {c m n : Int} (hp : S[p]? = some (.lst [.int c, .int m])) (h : PenOk c m) (h1 : 0 < n) (h2 : n < 2 ^ 250) :
    (C (k + 1) "_law_take" [.o p, .t (.int n)] S).wp (fun v S' => ∃ r c' m', v = .t (.int r) ∧ 0 ≤ r ∧ r < n ∧ PenOk c' m' ∧ S' = S.set p (.lst [.int c', .int m'])) nE := by
  have hl := lt_of_at hp
  refine wp_fn d_g_law_take rfl ?_
  obtain ⟨hc, rfl | ⟨rfl, hm⟩⟩ := h
  · simp -implicitDefEqProofs only [g_law_take, hp, hl, wp_ok, wp_exc, wp_fail, wp_bind, wp_liftE, wp_noX, wp_ite, wp_var, wp_cst, wp_glb, wp_op0, wp_op1, wp_op2, wp_op3, wp_and, wp_or, wp_not, wp_iteE, wp_chain, wp_call, wp_tup, wp_lst, wp_dct, wp_comp, wp_nil, wp_cons, wt_and, wt_or, wt_not, wt_op2, wt_chain, wt_var, wt_cst, wt_op1, wt_call, wi_one, wi_two, asB_b, ws_ex, ws_asg, ws_sset, ws_ret, ws_ret0, ws_ite, ws_for, ws_whl, ws_raise, ws_try, tryP_nx, tryP_ret, tryP_exc, ws_cont, ws_brk, wb_nil, wb_cons, seqF_nx, seqF_ret, seqF_brk, seqF_cont, seqF_exc, endP_nx, endP_ret, endP_exc, fin_tree, fin_app, fin_app0, at_app0, at_app, at_lt, set_app0, set_app, set_lt, take_app, take_self, at_set, vw_t, vw_o, tree_frz, tree_lst, tree_dic, fz_t, fz_o, fzs_nil, fzs_cons, nrm_t, nrm_o, turnF_nx, turnF_cont, turnF_brk, turnF_ret, turnF_exc, stands_nil, stands_cons, wat_t, wat_o, s0, s1, s2, s3, w1, w2, bindT, sets, trB, truth, pre2, pre3, mid3, isL, isCmp, putO, slc, inC, wipeE, seq?, atI_0, atI_1, atI_2, atI_m, ixN_0, ixN_1, scalT, T.flat, teq, eqT, eqD, below, T.ty, List.map_cons, List.map_nil, List.cons_append, List.nil_append, List.append_assoc, List.append_nil, List.length_cons, List.length_nil, List.length_append, List.length_set, List.length_map, List.getElem?_cons_zero, List.getElem?_cons_succ, List.set_cons_zero, List.set_cons_succ, List.set_set, List.replicate_succ, List.replicate_zero, Option.map_some, Option.map_none, if_true, if_false, ite_true, ite_false, if_false_right, Bool.false_eq_true, decide_eq_true_eq, Bool.and_eq_true, Bool.or_eq_true, Bool.true_or, Bool.false_or, Bool.or_false, Bool.true_and, Bool.and_true, Bool.and_false, Bool.false_and, Bool.not_true, Bool.not_false, Nat.add_zero, Nat.zero_add, true_and, and_true, eq_self, reduceCtorEq, and_self, Int.reduceNeg, Int.reduceEq, Int.reduceBEq, Int.reduceLT, Int.reduceLE, Int.reducePow, Int.reduceToNat, Int.reduceAdd, Int.reduceMul, Int.reduceMod, Int.reduceDiv, Int.reduceSub, Nat.reduceAdd, Nat.reduceSub, Nat.reduceLT, Nat.reduceLeDiff, Nat.reducePow, true_or, or_true, or_false, false_or, beq_iff_eq, RV.t.injEq, RV.o.injEq, T.int.injEq, T.str.injEq, T.bl.injEq, Option.some.injEq, ge_iff_le, gt_iff_lt, exists_eq_left', exists_eq_left, List.any_cons, List.any_nil, List.contains_cons, List.contains_nil, exB, String.reduceBEq, String.reduceEq, beq_self_eq_true, bne_self_eq_false, Bool.not_eq_true, Bool.not_eq_false, Tabs.G, List.lookup_cons, List.lookup_nil, Int.reduceEq, Int.reduceBEq, Int.reduceLT]
    by_cases h0 : 0 < c
    · rw [if_pos h0]
      exact ⟨h1, ⟨h1, h2⟩, _, _, _, rfl, mod_nn _ h1, mod_lt' _ h1, ⟨Int.ediv_nonneg hc (by omega), .inl rfl⟩, rfl⟩
    · rw [if_neg h0]
      exact ⟨mulOk_of (by decide) (by decide) (by decide) (by decide), mulOk_of (by decide) (by decide) (by decide) (by decide), h1, _, _, _, rfl, mod_nn _ h1, mod_lt' _ h1, penOk_new (65537 * 69621 + 12345), rfl⟩
  · simp -implicitDefEqProofs only [g_law_take, hp, hl, wp_ok, wp_exc, wp_fail, wp_bind, wp_liftE, wp_noX, wp_ite, wp_var, wp_cst, wp_glb, wp_op0, wp_op1, wp_op2, wp_op3, wp_and, wp_or, wp_not, wp_iteE, wp_chain, wp_call, wp_tup, wp_lst, wp_dct, wp_comp, wp_nil, wp_cons, wt_and, wt_or, wt_not, wt_op2, wt_chain, wt_var, wt_cst, wt_op1, wt_call, wi_one, wi_two, asB_b, ws_ex, ws_asg, ws_sset, ws_ret, ws_ret0, ws_ite, ws_for, ws_whl, ws_raise, ws_try, tryP_nx, tryP_ret, tryP_exc, ws_cont, ws_brk, wb_nil, wb_cons, seqF_nx, seqF_ret, seqF_brk, seqF_cont, seqF_exc, endP_nx, endP_ret, endP_exc, fin_tree, fin_app, fin_app0, at_app0, at_app, at_lt, set_app0, set_app, set_lt, take_app, take_self, at_set, vw_t, vw_o, tree_frz, tree_lst, tree_dic, fz_t, fz_o, fzs_nil, fzs_cons, nrm_t, nrm_o, turnF_nx, turnF_cont, turnF_brk, turnF_ret, turnF_exc, stands_nil, stands_cons, wat_t, wat_o, s0, s1, s2, s3, w1, w2, bindT, sets, trB, truth, pre2, pre3, mid3, isL, isCmp, putO, slc, inC, wipeE, seq?, atI_0, atI_1, atI_2, atI_m, ixN_0, ixN_1, scalT, T.flat, teq, eqT, eqD, below, T.ty, List.map_cons, List.map_nil, List.cons_append, List.nil_append, List.append_assoc, List.append_nil, List.length_cons, List.length_nil, List.length_append, List.length_set, List.length_map, List.getElem?_cons_zero, List.getElem?_cons_succ, List.set_cons_zero, List.set_cons_succ, List.set_set, List.replicate_succ, List.replicate_zero, Option.map_some, Option.map_none, if_true, if_false, ite_true, ite_false, if_false_right, Bool.false_eq_true, decide_eq_true_eq, Bool.and_eq_true, Bool.or_eq_true, Bool.true_or, Bool.false_or, Bool.or_false, Bool.true_and, Bool.and_true, Bool.and_false, Bool.false_and, Bool.not_true, Bool.not_false, Nat.add_zero, Nat.zero_add, true_and, and_true, eq_self, reduceCtorEq, and_self, Int.reduceNeg, Int.reduceEq, Int.reduceBEq, Int.reduceLT, Int.reduceLE, Int.reducePow, Int.reduceToNat, Int.reduceAdd, Int.reduceMul, Int.reduceMod, Int.reduceDiv, Int.reduceSub, Nat.reduceAdd, Nat.reduceSub, Nat.reduceLT, Nat.reduceLeDiff, Nat.reducePow, true_or, or_true, or_false, false_or, beq_iff_eq, RV.t.injEq, RV.o.injEq, T.int.injEq, T.str.injEq, T.bl.injEq, Option.some.injEq, ge_iff_le, gt_iff_lt, exists_eq_left', exists_eq_left, List.any_cons, List.any_nil, List.contains_cons, List.contains_nil, exB, String.reduceBEq, String.reduceEq, beq_self_eq_true, bne_self_eq_false, Bool.not_eq_true, Bool.not_eq_false, Tabs.G, List.lookup_cons, List.lookup_nil, Int.reduceEq, Int.reduceBEq, Int.reduceLT]
    exact ⟨mulOk_of hc (by omega) (by decide) (by decide), mulOk_pen _, h1, _, _, _, rfl, mod_nn _ h1, mod_lt' _ h1, penOk_new _, rfl⟩
theorem pen_ok {k : Nat} {S : Store} {ns : List Int} {j : Int} (h0 : 0 ≤ j) (h1 : j < 1000) :
    (C (k + 1) "_law_pen" [.t (.rol (ns.map T.int)), .t (.int j)] S).wp (fun v S' => ∃ c m, v = .o S.length ∧ PenOk c m ∧ S' = S ++ [.lst [.int c, .int m]]) nE := by
  have hz : 2 ≤ sizeLine := by decide
  refine wp_fn d_g_law_pen rfl ?_
  have fin : ∀ x : Int, Int.natAbs 10 < 18446744073709551616 ∧
    if 1000000000000000000 ≤ x then
      Int.natAbs 10 < 18446744073709551616 ∧
        ∃ c m, PenOk c m ∧ S ++ [SO.lst [T.int (x - 1000000000000000000), T.int 0]] = S ++ [SO.lst [T.int c, T.int m]]
    else
      mulOk 40503 j = true ∧
        mulOk (x % 2147483629 + 40503 * j + 1) 48271 = true ∧
          ∃ c m,
            PenOk c m ∧
              S ++ [SO.lst [T.int ((x % 2147483629 + 40503 * j + 1) * 48271 % 2147483647), T.int 1]] =
                S ++ [SO.lst [T.int c, T.int m]] := by
    intro x
    refine ⟨by decide, ?_⟩
    split
    · exact ⟨by decide, _, _, ⟨by omega, .inl rfl⟩, rfl⟩
    · refine ⟨mulOk_of (by decide) (by decide) h0 (by omega), ?_, _, _, ⟨mod_nn _ (by decide), .inr ⟨rfl, mod_lt' _ (by decide)⟩⟩, rfl⟩
      have h1 := mod_lt' x (b := 2147483629) (by decide)
      have h2 := mod_nn x (b := 2147483629) (by decide)
      exact mulOk_of (by omega) (by omega) (by decide) (by decide)
  have m31 : mulOk 31 j = true := mulOk_of (by decide) (by decide) h0 (by omega)
  by_cases hj : j < ns.length
  · obtain ⟨x, hx⟩ := at_ints h0 hj
    simp -implicitDefEqProofs only [g_law_pen, m31, hj, hx, hz, wp_ok, wp_exc, wp_fail, wp_bind, wp_liftE, wp_noX, wp_ite, wp_var, wp_cst, wp_glb, wp_op0, wp_op1, wp_op2, wp_op3, wp_and, wp_or, wp_not, wp_iteE, wp_chain, wp_call, wp_tup, wp_lst, wp_dct, wp_comp, wp_nil, wp_cons, wt_and, wt_or, wt_not, wt_op2, wt_chain, wt_var, wt_cst, wt_op1, wt_call, wi_one, wi_two, asB_b, ws_ex, ws_asg, ws_sset, ws_ret, ws_ret0, ws_ite, ws_for, ws_whl, ws_raise, ws_try, tryP_nx, tryP_ret, tryP_exc, ws_cont, ws_brk, wb_nil, wb_cons, seqF_nx, seqF_ret, seqF_brk, seqF_cont, seqF_exc, endP_nx, endP_ret, endP_exc, fin_tree, fin_app, fin_app0, at_app0, at_app, at_lt, set_app0, set_app, set_lt, take_app, take_self, at_set, vw_t, vw_o, tree_frz, tree_lst, tree_dic, fz_t, fz_o, fzs_nil, fzs_cons, nrm_t, nrm_o, turnF_nx, turnF_cont, turnF_brk, turnF_ret, turnF_exc, stands_nil, stands_cons, wat_t, wat_o, s0, s1, s2, s3, w1, w2, bindT, sets, trB, truth, pre2, pre3, mid3, isL, isCmp, putO, slc, inC, wipeE, seq?, atI_0, atI_1, atI_2, atI_m, ixN_0, ixN_1, scalT, T.flat, teq, eqT, eqD, below, T.ty, List.map_cons, List.map_nil, List.cons_append, List.nil_append, List.append_assoc, List.append_nil, List.length_cons, List.length_nil, List.length_append, List.length_set, List.length_map, List.getElem?_cons_zero, List.getElem?_cons_succ, List.set_cons_zero, List.set_cons_succ, List.set_set, List.replicate_succ, List.replicate_zero, Option.map_some, Option.map_none, if_true, if_false, ite_true, ite_false, if_false_right, Bool.false_eq_true, decide_eq_true_eq, Bool.and_eq_true, Bool.or_eq_true, Bool.true_or, Bool.false_or, Bool.or_false, Bool.true_and, Bool.and_true, Bool.and_false, Bool.false_and, Bool.not_true, Bool.not_false, Nat.add_zero, Nat.zero_add, true_and, and_true, eq_self, reduceCtorEq, and_self, Int.reduceNeg, Int.reduceEq, Int.reduceBEq, Int.reduceLT, Int.reduceLE, Int.reducePow, Int.reduceToNat, Int.reduceAdd, Int.reduceMul, Int.reduceMod, Int.reduceDiv, Int.reduceSub, Nat.reduceAdd, Nat.reduceSub, Nat.reduceLT, Nat.reduceLeDiff, Nat.reducePow, true_or, or_true, or_false, false_or, beq_iff_eq, RV.t.injEq, RV.o.injEq, T.int.injEq, T.str.injEq, T.bl.injEq, Option.some.injEq, ge_iff_le, gt_iff_lt, exists_eq_left', exists_eq_left, List.any_cons, List.any_nil, List.contains_cons, List.contains_nil, exB, String.reduceBEq, String.reduceEq, beq_self_eq_true, bne_self_eq_false, Bool.not_eq_true, Bool.not_eq_false, Tabs.G, List.lookup_cons, List.lookup_nil]
    exact fin x
  · simp -implicitDefEqProofs only [g_law_pen, m31, hj, hz, wp_ok, wp_exc, wp_fail, wp_bind, wp_liftE, wp_noX, wp_ite, wp_var, wp_cst, wp_glb, wp_op0, wp_op1, wp_op2, wp_op3, wp_and, wp_or, wp_not, wp_iteE, wp_chain, wp_call, wp_tup, wp_lst, wp_dct, wp_comp, wp_nil, wp_cons, wt_and, wt_or, wt_not, wt_op2, wt_chain, wt_var, wt_cst, wt_op1, wt_call, wi_one, wi_two, asB_b, ws_ex, ws_asg, ws_sset, ws_ret, ws_ret0, ws_ite, ws_for, ws_whl, ws_raise, ws_try, tryP_nx, tryP_ret, tryP_exc, ws_cont, ws_brk, wb_nil, wb_cons, seqF_nx, seqF_ret, seqF_brk, seqF_cont, seqF_exc, endP_nx, endP_ret, endP_exc, fin_tree, fin_app, fin_app0, at_app0, at_app, at_lt, set_app0, set_app, set_lt, take_app, take_self, at_set, vw_t, vw_o, tree_frz, tree_lst, tree_dic, fz_t, fz_o, fzs_nil, fzs_cons, nrm_t, nrm_o, turnF_nx, turnF_cont, turnF_brk, turnF_ret, turnF_exc, stands_nil, stands_cons, wat_t, wat_o, s0, s1, s2, s3, w1, w2, bindT, sets, trB, truth, pre2, pre3, mid3, isL, isCmp, putO, slc, inC, wipeE, seq?, atI_0, atI_1, atI_2, atI_m, ixN_0, ixN_1, scalT, T.flat, teq, eqT, eqD, below, T.ty, List.map_cons, List.map_nil, List.cons_append, List.nil_append, List.append_assoc, List.append_nil, List.length_cons, List.length_nil, List.length_append, List.length_set, List.length_map, List.getElem?_cons_zero, List.getElem?_cons_succ, List.set_cons_zero, List.set_cons_succ, List.set_set, List.replicate_succ, List.replicate_zero, Option.map_some, Option.map_none, if_true, if_false, ite_true, ite_false, if_false_right, Bool.false_eq_true, decide_eq_true_eq, Bool.and_eq_true, Bool.or_eq_true, Bool.true_or, Bool.false_or, Bool.or_false, Bool.true_and, Bool.and_true, Bool.and_false, Bool.false_and, Bool.not_true, Bool.not_false, Nat.add_zero, Nat.zero_add, true_and, and_true, eq_self, reduceCtorEq, and_self, Int.reduceNeg, Int.reduceEq, Int.reduceBEq, Int.reduceLT, Int.reduceLE, Int.reducePow, Int.reduceToNat, Int.reduceAdd, Int.reduceMul, Int.reduceMod, Int.reduceDiv, Int.reduceSub, Nat.reduceAdd, Nat.reduceSub, Nat.reduceLT, Nat.reduceLeDiff, Nat.reducePow, true_or, or_true, or_false, false_or, beq_iff_eq, RV.t.injEq, RV.o.injEq, T.int.injEq, T.str.injEq, T.bl.injEq, Option.some.injEq, ge_iff_le, gt_iff_lt, exists_eq_left', exists_eq_left, List.any_cons, List.any_nil, List.contains_cons, List.contains_nil, exB, String.reduceBEq, String.reduceEq, beq_self_eq_true, bne_self_eq_false, Bool.not_eq_true, Bool.not_eq_false, Tabs.G, List.lookup_cons, List.lookup_nil]
    exact fin _
end K04

set_option maxRecDepth 100000
set_option maxHeartbeats 400000
namespace K04
open PySem PV L2
/-- a stamp -/
abbrev Stamp := Str × Int × Str
def stT (s : Stamp) : T := .tup [.str s.1, .int s.2.1, .str s.2.2]
theorem names_ok {k : Nat} {S : Store} {p : Nat} {c m : Int} {n : Nat} (hp : S[p]? = some (.lst [.int c, .int m])) (h : PenOk c m) (hn : n ≤ 8) :
    (C (k + 2) "_law_names" [.o p, .t (.int n)] S).wp (fun v S' => ∃ (c' m' : Int) (ss : List Str), v = .o S.length ∧ PenOk c' m' ∧ S' = S.set p (.lst [.int c', .int m']) ++ [.lst (ss.map T.str)] ∧ ss.length = n ∧ ∀ s ∈ ss, Tx 30 s) nE := by
  have lp := lt_of_at hp
  refine wp_fn d_g_law_names rfl ?_
  simp -implicitDefEqProofs only [g_law_names, hp, wp_ok, wp_exc, wp_fail, wp_bind, wp_liftE, wp_noX, wp_ite, wp_var, wp_cst, wp_glb, wp_op0, wp_op1, wp_op2, wp_op3, wp_and, wp_or, wp_not, wp_iteE, wp_chain, wp_call, wp_tup, wp_lst, wp_dct, wp_comp, wp_nil, wp_cons, wt_and, wt_or, wt_not, wt_op2, wt_chain, wt_var, wt_cst, wt_op1, wt_call, wi_one, wi_two, asB_b, ws_ex, ws_asg, ws_sset, ws_ret, ws_ret0, ws_ite, ws_for, ws_whl, ws_raise, ws_try, tryP_nx, tryP_ret, tryP_exc, ws_cont, ws_brk, wb_nil, wb_cons, seqF_nx, seqF_ret, seqF_brk, seqF_cont, seqF_exc, endP_nx, endP_ret, endP_exc, fin_tree, fin_app, fin_app0, at_app0, at_app, at_lt, set_app0, set_app, set_lt, take_app, take_self, at_set, vw_t, vw_o, tree_frz, tree_lst, tree_dic, fz_t, fz_o, fzs_nil, fzs_cons, nrm_t, nrm_o, turnF_nx, turnF_cont, turnF_brk, turnF_ret, turnF_exc, stands_nil, stands_cons, wat_t, wat_o, s0, s1, s2, s3, w1, w2, bindT, sets, trB, truth, pre2, pre3, mid3, isL, isCmp, putO, slc, inC, wipeE, seq?, atI_0, atI_1, atI_2, atI_m, ixN_0, ixN_1, scalT, T.flat, teq, eqT, eqD, below, T.ty, List.map_cons, List.map_nil, List.cons_append, List.nil_append, List.append_assoc, List.append_nil, List.length_cons, List.length_nil, List.length_append, List.length_set, List.length_map, List.getElem?_cons_zero, List.getElem?_cons_succ, List.set_cons_zero, List.set_cons_succ, List.set_set, List.replicate_succ, List.replicate_zero, Option.map_some, Option.map_none, if_true, if_false, ite_true, ite_false, if_false_right, Bool.false_eq_true, decide_eq_true_eq, Bool.and_eq_true, Bool.or_eq_true, Bool.true_or, Bool.false_or, Bool.or_false, Bool.true_and, Bool.and_true, Bool.and_false, Bool.false_and, Bool.not_true, Bool.not_false, Nat.add_zero, Nat.zero_add, true_and, and_true, eq_self, reduceCtorEq, and_self, Int.reduceNeg, Int.reduceEq, Int.reduceBEq, Int.reduceLT, Int.reduceLE, Int.reducePow, Int.reduceToNat, Int.reduceAdd, Int.reduceMul, Int.reduceMod, Int.reduceDiv, Int.reduceSub, Nat.reduceAdd, Nat.reduceSub, Nat.reduceLT, Nat.reduceLeDiff, Nat.reducePow, true_or, or_true, or_false, false_or, beq_iff_eq, RV.t.injEq, RV.o.injEq, T.int.injEq, T.str.injEq, T.bl.injEq, Option.some.injEq, ge_iff_le, gt_iff_lt, exists_eq_left', exists_eq_left, List.any_cons, List.any_nil, List.contains_cons, List.contains_nil, exB, String.reduceBEq, String.reduceEq, beq_self_eq_true, bne_self_eq_false, Bool.not_eq_true, Bool.not_eq_false, Tabs.G, List.lookup_cons, List.lookup_nil]
  refine wp_use (take_ok hp h (by decide) (by decide)) fun v S' ⟨way, c1, m1, e1, w0, w1, h1, e2⟩ => ?_
  subst e1 e2
  simp -implicitDefEqProofs only [lp, wp_ok, wp_exc, wp_fail, wp_bind, wp_liftE, wp_noX, wp_ite, wp_var, wp_cst, wp_glb, wp_op0, wp_op1, wp_op2, wp_op3, wp_and, wp_or, wp_not, wp_iteE, wp_chain, wp_call, wp_tup, wp_lst, wp_dct, wp_comp, wp_nil, wp_cons, wt_and, wt_or, wt_not, wt_op2, wt_chain, wt_var, wt_cst, wt_op1, wt_call, wi_one, wi_two, asB_b, ws_ex, ws_asg, ws_sset, ws_ret, ws_ret0, ws_ite, ws_for, ws_whl, ws_raise, ws_try, tryP_nx, tryP_ret, tryP_exc, ws_cont, ws_brk, wb_nil, wb_cons, seqF_nx, seqF_ret, seqF_brk, seqF_cont, seqF_exc, endP_nx, endP_ret, endP_exc, fin_tree, fin_app, fin_app0, at_app0, at_app, at_lt, set_app0, set_app, set_lt, take_app, take_self, at_set, vw_t, vw_o, tree_frz, tree_lst, tree_dic, fz_t, fz_o, fzs_nil, fzs_cons, nrm_t, nrm_o, turnF_nx, turnF_cont, turnF_brk, turnF_ret, turnF_exc, stands_nil, stands_cons, wat_t, wat_o, s0, s1, s2, s3, w1, w2, bindT, sets, trB, truth, pre2, pre3, mid3, isL, isCmp, putO, slc, inC, wipeE, seq?, atI_0, atI_1, atI_2, atI_m, ixN_0, ixN_1, scalT, T.flat, teq, eqT, eqD, below, T.ty, List.map_cons, List.map_nil, List.cons_append, List.nil_append, List.append_assoc, List.append_nil, List.length_cons, List.length_nil, List.length_append, List.length_set, List.length_map, List.getElem?_cons_zero, List.getElem?_cons_succ, List.set_cons_zero, List.set_cons_succ, List.set_set, List.replicate_succ, List.replicate_zero, Option.map_some, Option.map_none, if_true, if_false, ite_true, ite_false, if_false_right, Bool.false_eq_true, decide_eq_true_eq, Bool.and_eq_true, Bool.or_eq_true, Bool.true_or, Bool.false_or, Bool.or_false, Bool.true_and, Bool.and_true, Bool.and_false, Bool.false_and, Bool.not_true, Bool.not_false, Nat.add_zero, Nat.zero_add, true_and, and_true, eq_self, reduceCtorEq, and_self, Int.reduceNeg, Int.reduceEq, Int.reduceBEq, Int.reduceLT, Int.reduceLE, Int.reducePow, Int.reduceToNat, Int.reduceAdd, Int.reduceMul, Int.reduceMod, Int.reduceDiv, Int.reduceSub, Nat.reduceAdd, Nat.reduceSub, Nat.reduceLT, Nat.reduceLeDiff, Nat.reducePow, true_or, or_true, or_false, false_or, beq_iff_eq, RV.t.injEq, RV.o.injEq, T.int.injEq, T.str.injEq, T.bl.injEq, Option.some.injEq, ge_iff_le, gt_iff_lt, exists_eq_left', exists_eq_left, List.any_cons, List.any_nil, List.contains_cons, List.contains_nil, exB, String.reduceBEq, String.reduceEq, beq_self_eq_true, bne_self_eq_false, Bool.not_eq_true, Bool.not_eq_false, Tabs.G, List.lookup_cons, List.lookup_nil]
  refine wp_lcL (fun i acc S' => ∃ (c m : Int) (ss : List Str), PenOk c m ∧ S' = S.set p (.lst [.int c, .int m]) ++ [.lst acc] ∧ acc = ss.map T.str ∧ ss.length = i ∧ ∀ s ∈ ss, Tx 1 s) ⟨c1, m1, [], h1, rfl, rfl, rfl, fun _ h => nomatch h⟩ (fun _ _ _ _ _ => stands_nil ▸ trivial)
    (fun i x acc S' hx ⟨c2, m2, ss, h2, e1, e2, e3, h3⟩ => ?_) (fun acc S' ⟨c2, m2, ss, h2, e1, e2, e3, h3⟩ => ?_)
  · subst e1 e2
    obtain ⟨hi, rfl⟩ := range_get hx
    simp -implicitDefEqProofs only [wp_stepC, lp, wp_ok, wp_exc, wp_fail, wp_bind, wp_liftE, wp_noX, wp_ite, wp_var, wp_cst, wp_glb, wp_op0, wp_op1, wp_op2, wp_op3, wp_and, wp_or, wp_not, wp_iteE, wp_chain, wp_call, wp_tup, wp_lst, wp_dct, wp_comp, wp_nil, wp_cons, wt_and, wt_or, wt_not, wt_op2, wt_chain, wt_var, wt_cst, wt_op1, wt_call, wi_one, wi_two, asB_b, ws_ex, ws_asg, ws_sset, ws_ret, ws_ret0, ws_ite, ws_for, ws_whl, ws_raise, ws_try, tryP_nx, tryP_ret, tryP_exc, ws_cont, ws_brk, wb_nil, wb_cons, seqF_nx, seqF_ret, seqF_brk, seqF_cont, seqF_exc, endP_nx, endP_ret, endP_exc, fin_tree, fin_app, fin_app0, at_app0, at_app, at_lt, set_app0, set_app, set_lt, take_app, take_self, at_set, vw_t, vw_o, tree_frz, tree_lst, tree_dic, fz_t, fz_o, fzs_nil, fzs_cons, nrm_t, nrm_o, turnF_nx, turnF_cont, turnF_brk, turnF_ret, turnF_exc, stands_nil, stands_cons, wat_t, wat_o, s0, s1, s2, s3, w1, w2, bindT, sets, trB, truth, pre2, pre3, mid3, isL, isCmp, putO, slc, inC, wipeE, seq?, atI_0, atI_1, atI_2, atI_m, ixN_0, ixN_1, scalT, T.flat, teq, eqT, eqD, below, T.ty, List.map_cons, List.map_nil, List.cons_append, List.nil_append, List.append_assoc, List.append_nil, List.length_cons, List.length_nil, List.length_append, List.length_set, List.length_map, List.getElem?_cons_zero, List.getElem?_cons_succ, List.set_cons_zero, List.set_cons_succ, List.set_set, List.replicate_succ, List.replicate_zero, Option.map_some, Option.map_none, if_true, if_false, ite_true, ite_false, if_false_right, Bool.false_eq_true, decide_eq_true_eq, Bool.and_eq_true, Bool.or_eq_true, Bool.true_or, Bool.false_or, Bool.or_false, Bool.true_and, Bool.and_true, Bool.and_false, Bool.false_and, Bool.not_true, Bool.not_false, Nat.add_zero, Nat.zero_add, true_and, and_true, eq_self, reduceCtorEq, and_self, Int.reduceNeg, Int.reduceEq, Int.reduceBEq, Int.reduceLT, Int.reduceLE, Int.reducePow, Int.reduceToNat, Int.reduceAdd, Int.reduceMul, Int.reduceMod, Int.reduceDiv, Int.reduceSub, Nat.reduceAdd, Nat.reduceSub, Nat.reduceLT, Nat.reduceLeDiff, Nat.reducePow, true_or, or_true, or_false, false_or, beq_iff_eq, RV.t.injEq, RV.o.injEq, T.int.injEq, T.str.injEq, T.bl.injEq, Option.some.injEq, ge_iff_le, gt_iff_lt, exists_eq_left', exists_eq_left, List.any_cons, List.any_nil, List.contains_cons, List.contains_nil, exB, String.reduceBEq, String.reduceEq, beq_self_eq_true, bne_self_eq_false, Bool.not_eq_true, Bool.not_eq_false, Tabs.G, List.lookup_cons, List.lookup_nil]
    refine wp_use (take_ok (p := p) (c := c2) (m := m2) (by simp -implicitDefEqProofs only [lp, wp_ok, wp_exc, wp_fail, wp_bind, wp_liftE, wp_noX, wp_ite, wp_var, wp_cst, wp_glb, wp_op0, wp_op1, wp_op2, wp_op3, wp_and, wp_or, wp_not, wp_iteE, wp_chain, wp_call, wp_tup, wp_lst, wp_dct, wp_comp, wp_nil, wp_cons, wt_and, wt_or, wt_not, wt_op2, wt_chain, wt_var, wt_cst, wt_op1, wt_call, wi_one, wi_two, asB_b, ws_ex, ws_asg, ws_sset, ws_ret, ws_ret0, ws_ite, ws_for, ws_whl, ws_raise, ws_try, tryP_nx, tryP_ret, tryP_exc, ws_cont, ws_brk, wb_nil, wb_cons, seqF_nx, seqF_ret, seqF_brk, seqF_cont, seqF_exc, endP_nx, endP_ret, endP_exc, fin_tree, fin_app, fin_app0, at_app0, at_app, at_lt, set_app0, set_app, set_lt, take_app, take_self, at_set, vw_t, vw_o, tree_frz, tree_lst, tree_dic, fz_t, fz_o, fzs_nil, fzs_cons, nrm_t, nrm_o, turnF_nx, turnF_cont, turnF_brk, turnF_ret, turnF_exc, stands_nil, stands_cons, wat_t, wat_o, s0, s1, s2, s3, w1, w2, bindT, sets, trB, truth, pre2, pre3, mid3, isL, isCmp, putO, slc, inC, wipeE, seq?, atI_0, atI_1, atI_2, atI_m, ixN_0, ixN_1, scalT, T.flat, teq, eqT, eqD, below, T.ty, List.map_cons, List.map_nil, List.cons_append, List.nil_append, List.append_assoc, List.append_nil, List.length_cons, List.length_nil, List.length_append, List.length_set, List.length_map, List.getElem?_cons_zero, List.getElem?_cons_succ, List.set_cons_zero, List.set_cons_succ, List.set_set, List.replicate_succ, List.replicate_zero, Option.map_some, Option.map_none, if_true, if_false, ite_true, ite_false, if_false_right, Bool.false_eq_true, decide_eq_true_eq, Bool.and_eq_true, Bool.or_eq_true, Bool.true_or, Bool.false_or, Bool.or_false, Bool.true_and, Bool.and_true, Bool.and_false, Bool.false_and, Bool.not_true, Bool.not_false, Nat.add_zero, Nat.zero_add, true_and, and_true, eq_self, reduceCtorEq, and_self, Int.reduceNeg, Int.reduceEq, Int.reduceBEq, Int.reduceLT, Int.reduceLE, Int.reducePow, Int.reduceToNat, Int.reduceAdd, Int.reduceMul, Int.reduceMod, Int.reduceDiv, Int.reduceSub, Nat.reduceAdd, Nat.reduceSub, Nat.reduceLT, Nat.reduceLeDiff, Nat.reducePow, true_or, or_true, or_false, false_or, beq_iff_eq, RV.t.injEq, RV.o.injEq, T.int.injEq, T.str.injEq, T.bl.injEq, Option.some.injEq, ge_iff_le, gt_iff_lt, exists_eq_left', exists_eq_left, List.any_cons, List.any_nil, List.contains_cons, List.contains_nil, exB, String.reduceBEq, String.reduceEq, beq_self_eq_true, bne_self_eq_false, Bool.not_eq_true, Bool.not_eq_false, Tabs.G, List.lookup_cons, List.lookup_nil]) h2 (by decide) (by decide)) fun v S' ⟨r, c3, m3, e1, r0, r1, h4, e2⟩ => ?_
    subst e1 e2
    obtain ⟨z, hz, tz⟩ := abc_at r0 r1
    have hsz : (Str.ofString "abcdefghijklmnopqrstuvwxyz").length ≤ sizeLine := Nat.le_of_lt (small1000 (by rw [abc_len]; decide))
    have hi' : i < 8 := by simpa using hi
    have hlt : ss.length < sizeLine := small1000 (by omega)
    simp -implicitDefEqProofs only [lp, hz, hsz, wp_ok, wp_exc, wp_fail, wp_bind, wp_liftE, wp_noX, wp_ite, wp_var, wp_cst, wp_glb, wp_op0, wp_op1, wp_op2, wp_op3, wp_and, wp_or, wp_not, wp_iteE, wp_chain, wp_call, wp_tup, wp_lst, wp_dct, wp_comp, wp_nil, wp_cons, wt_and, wt_or, wt_not, wt_op2, wt_chain, wt_var, wt_cst, wt_op1, wt_call, wi_one, wi_two, asB_b, ws_ex, ws_asg, ws_sset, ws_ret, ws_ret0, ws_ite, ws_for, ws_whl, ws_raise, ws_try, tryP_nx, tryP_ret, tryP_exc, ws_cont, ws_brk, wb_nil, wb_cons, seqF_nx, seqF_ret, seqF_brk, seqF_cont, seqF_exc, endP_nx, endP_ret, endP_exc, fin_tree, fin_app, fin_app0, at_app0, at_app, at_lt, set_app0, set_app, set_lt, take_app, take_self, at_set, vw_t, vw_o, tree_frz, tree_lst, tree_dic, fz_t, fz_o, fzs_nil, fzs_cons, nrm_t, nrm_o, turnF_nx, turnF_cont, turnF_brk, turnF_ret, turnF_exc, stands_nil, stands_cons, wat_t, wat_o, s0, s1, s2, s3, w1, w2, bindT, sets, trB, truth, pre2, pre3, mid3, isL, isCmp, putO, slc, inC, wipeE, seq?, atI_0, atI_1, atI_2, atI_m, ixN_0, ixN_1, scalT, T.flat, teq, eqT, eqD, below, T.ty, List.map_cons, List.map_nil, List.cons_append, List.nil_append, List.append_assoc, List.append_nil, List.length_cons, List.length_nil, List.length_append, List.length_set, List.length_map, List.getElem?_cons_zero, List.getElem?_cons_succ, List.set_cons_zero, List.set_cons_succ, List.set_set, List.replicate_succ, List.replicate_zero, Option.map_some, Option.map_none, if_true, if_false, ite_true, ite_false, if_false_right, Bool.false_eq_true, decide_eq_true_eq, Bool.and_eq_true, Bool.or_eq_true, Bool.true_or, Bool.false_or, Bool.or_false, Bool.true_and, Bool.and_true, Bool.and_false, Bool.false_and, Bool.not_true, Bool.not_false, Nat.add_zero, Nat.zero_add, true_and, and_true, eq_self, reduceCtorEq, and_self, Int.reduceNeg, Int.reduceEq, Int.reduceBEq, Int.reduceLT, Int.reduceLE, Int.reducePow, Int.reduceToNat, Int.reduceAdd, Int.reduceMul, Int.reduceMod, Int.reduceDiv, Int.reduceSub, Nat.reduceAdd, Nat.reduceSub, Nat.reduceLT, Nat.reduceLeDiff, Nat.reducePow, true_or, or_true, or_false, false_or, beq_iff_eq, RV.t.injEq, RV.o.injEq, T.int.injEq, T.str.injEq, T.bl.injEq, Option.some.injEq, ge_iff_le, gt_iff_lt, exists_eq_left', exists_eq_left, List.any_cons, List.any_nil, List.contains_cons, List.contains_nil, exB, String.reduceBEq, String.reduceEq, beq_self_eq_true, bne_self_eq_false, Bool.not_eq_true, Bool.not_eq_false, Tabs.G, List.lookup_cons, List.lookup_nil]
    refine ⟨_, _, rfl, by simp -implicitDefEqProofs only [lp, wp_ok, wp_exc, wp_fail, wp_bind, wp_liftE, wp_noX, wp_ite, wp_var, wp_cst, wp_glb, wp_op0, wp_op1, wp_op2, wp_op3, wp_and, wp_or, wp_not, wp_iteE, wp_chain, wp_call, wp_tup, wp_lst, wp_dct, wp_comp, wp_nil, wp_cons, wt_and, wt_or, wt_not, wt_op2, wt_chain, wt_var, wt_cst, wt_op1, wt_call, wi_one, wi_two, asB_b, ws_ex, ws_asg, ws_sset, ws_ret, ws_ret0, ws_ite, ws_for, ws_whl, ws_raise, ws_try, tryP_nx, tryP_ret, tryP_exc, ws_cont, ws_brk, wb_nil, wb_cons, seqF_nx, seqF_ret, seqF_brk, seqF_cont, seqF_exc, endP_nx, endP_ret, endP_exc, fin_tree, fin_app, fin_app0, at_app0, at_app, at_lt, set_app0, set_app, set_lt, take_app, take_self, at_set, vw_t, vw_o, tree_frz, tree_lst, tree_dic, fz_t, fz_o, fzs_nil, fzs_cons, nrm_t, nrm_o, turnF_nx, turnF_cont, turnF_brk, turnF_ret, turnF_exc, stands_nil, stands_cons, wat_t, wat_o, s0, s1, s2, s3, w1, w2, bindT, sets, trB, truth, pre2, pre3, mid3, isL, isCmp, putO, slc, inC, wipeE, seq?, atI_0, atI_1, atI_2, atI_m, ixN_0, ixN_1, scalT, T.flat, teq, eqT, eqD, below, T.ty, List.map_cons, List.map_nil, List.cons_append, List.nil_append, List.append_assoc, List.append_nil, List.length_cons, List.length_nil, List.length_append, List.length_set, List.length_map, List.getElem?_cons_zero, List.getElem?_cons_succ, List.set_cons_zero, List.set_cons_succ, List.set_set, List.replicate_succ, List.replicate_zero, Option.map_some, Option.map_none, if_true, if_false, ite_true, ite_false, if_false_right, Bool.false_eq_true, decide_eq_true_eq, Bool.and_eq_true, Bool.or_eq_true, Bool.true_or, Bool.false_or, Bool.or_false, Bool.true_and, Bool.and_true, Bool.and_false, Bool.false_and, Bool.not_true, Bool.not_false, Nat.add_zero, Nat.zero_add, true_and, and_true, eq_self, reduceCtorEq, and_self, Int.reduceNeg, Int.reduceEq, Int.reduceBEq, Int.reduceLT, Int.reduceLE, Int.reducePow, Int.reduceToNat, Int.reduceAdd, Int.reduceMul, Int.reduceMod, Int.reduceDiv, Int.reduceSub, Nat.reduceAdd, Nat.reduceSub, Nat.reduceLT, Nat.reduceLeDiff, Nat.reducePow, true_or, or_true, or_false, false_or, beq_iff_eq, RV.t.injEq, RV.o.injEq, T.int.injEq, T.str.injEq, T.bl.injEq, Option.some.injEq, ge_iff_le, gt_iff_lt, exists_eq_left', exists_eq_left, List.any_cons, List.any_nil, List.contains_cons, List.contains_nil, exB, String.reduceBEq, String.reduceEq, beq_self_eq_true, bne_self_eq_false, Bool.not_eq_true, Bool.not_eq_false, Tabs.G, List.lookup_cons, List.lookup_nil], by simpa using hlt, c3, m3, ss ++ [z], h4, by simp -implicitDefEqProofs only [lp, List.map_append, wp_ok, wp_exc, wp_fail, wp_bind, wp_liftE, wp_noX, wp_ite, wp_var, wp_cst, wp_glb, wp_op0, wp_op1, wp_op2, wp_op3, wp_and, wp_or, wp_not, wp_iteE, wp_chain, wp_call, wp_tup, wp_lst, wp_dct, wp_comp, wp_nil, wp_cons, wt_and, wt_or, wt_not, wt_op2, wt_chain, wt_var, wt_cst, wt_op1, wt_call, wi_one, wi_two, asB_b, ws_ex, ws_asg, ws_sset, ws_ret, ws_ret0, ws_ite, ws_for, ws_whl, ws_raise, ws_try, tryP_nx, tryP_ret, tryP_exc, ws_cont, ws_brk, wb_nil, wb_cons, seqF_nx, seqF_ret, seqF_brk, seqF_cont, seqF_exc, endP_nx, endP_ret, endP_exc, fin_tree, fin_app, fin_app0, at_app0, at_app, at_lt, set_app0, set_app, set_lt, take_app, take_self, at_set, vw_t, vw_o, tree_frz, tree_lst, tree_dic, fz_t, fz_o, fzs_nil, fzs_cons, nrm_t, nrm_o, turnF_nx, turnF_cont, turnF_brk, turnF_ret, turnF_exc, stands_nil, stands_cons, wat_t, wat_o, s0, s1, s2, s3, w1, w2, bindT, sets, trB, truth, pre2, pre3, mid3, isL, isCmp, putO, slc, inC, wipeE, seq?, atI_0, atI_1, atI_2, atI_m, ixN_0, ixN_1, scalT, T.flat, teq, eqT, eqD, below, T.ty, List.map_cons, List.map_nil, List.cons_append, List.nil_append, List.append_assoc, List.append_nil, List.length_cons, List.length_nil, List.length_append, List.length_set, List.length_map, List.getElem?_cons_zero, List.getElem?_cons_succ, List.set_cons_zero, List.set_cons_succ, List.set_set, List.replicate_succ, List.replicate_zero, Option.map_some, Option.map_none, if_true, if_false, ite_true, ite_false, if_false_right, Bool.false_eq_true, decide_eq_true_eq, Bool.and_eq_true, Bool.or_eq_true, Bool.true_or, Bool.false_or, Bool.or_false, Bool.true_and, Bool.and_true, Bool.and_false, Bool.false_and, Bool.not_true, Bool.not_false, Nat.add_zero, Nat.zero_add, true_and, and_true, eq_self, reduceCtorEq, and_self, Int.reduceNeg, Int.reduceEq, Int.reduceBEq, Int.reduceLT, Int.reduceLE, Int.reducePow, Int.reduceToNat, Int.reduceAdd, Int.reduceMul, Int.reduceMod, Int.reduceDiv, Int.reduceSub, Nat.reduceAdd, Nat.reduceSub, Nat.reduceLT, Nat.reduceLeDiff, Nat.reducePow, true_or, or_true, or_false, false_or, beq_iff_eq, RV.t.injEq, RV.o.injEq, T.int.injEq, T.str.injEq, T.bl.injEq, Option.some.injEq, ge_iff_le, gt_iff_lt, exists_eq_left', exists_eq_left, List.any_cons, List.any_nil, List.contains_cons, List.contains_nil, exB, String.reduceBEq, String.reduceEq, beq_self_eq_true, bne_self_eq_false, Bool.not_eq_true, Bool.not_eq_false, Tabs.G, List.lookup_cons, List.lookup_nil], by simp -implicitDefEqProofs only [List.map_append, wp_ok, wp_exc, wp_fail, wp_bind, wp_liftE, wp_noX, wp_ite, wp_var, wp_cst, wp_glb, wp_op0, wp_op1, wp_op2, wp_op3, wp_and, wp_or, wp_not, wp_iteE, wp_chain, wp_call, wp_tup, wp_lst, wp_dct, wp_comp, wp_nil, wp_cons, wt_and, wt_or, wt_not, wt_op2, wt_chain, wt_var, wt_cst, wt_op1, wt_call, wi_one, wi_two, asB_b, ws_ex, ws_asg, ws_sset, ws_ret, ws_ret0, ws_ite, ws_for, ws_whl, ws_raise, ws_try, tryP_nx, tryP_ret, tryP_exc, ws_cont, ws_brk, wb_nil, wb_cons, seqF_nx, seqF_ret, seqF_brk, seqF_cont, seqF_exc, endP_nx, endP_ret, endP_exc, fin_tree, fin_app, fin_app0, at_app0, at_app, at_lt, set_app0, set_app, set_lt, take_app, take_self, at_set, vw_t, vw_o, tree_frz, tree_lst, tree_dic, fz_t, fz_o, fzs_nil, fzs_cons, nrm_t, nrm_o, turnF_nx, turnF_cont, turnF_brk, turnF_ret, turnF_exc, stands_nil, stands_cons, wat_t, wat_o, s0, s1, s2, s3, w1, w2, bindT, sets, trB, truth, pre2, pre3, mid3, isL, isCmp, putO, slc, inC, wipeE, seq?, atI_0, atI_1, atI_2, atI_m, ixN_0, ixN_1, scalT, T.flat, teq, eqT, eqD, below, T.ty, List.map_cons, List.map_nil, List.cons_append, List.nil_append, List.append_assoc, List.append_nil, List.length_cons, List.length_nil, List.length_append, List.length_set, List.length_map, List.getElem?_cons_zero, List.getElem?_cons_succ, List.set_cons_zero, List.set_cons_succ, List.set_set, List.replicate_succ, List.replicate_zero, Option.map_some, Option.map_none, if_true, if_false, ite_true, ite_false, if_false_right, Bool.false_eq_true, decide_eq_true_eq, Bool.and_eq_true, Bool.or_eq_true, Bool.true_or, Bool.false_or, Bool.or_false, Bool.true_and, Bool.and_true, Bool.and_false, Bool.false_and, Bool.not_true, Bool.not_false, Nat.add_zero, Nat.zero_add, true_and, and_true, eq_self, reduceCtorEq, and_self, Int.reduceNeg, Int.reduceEq, Int.reduceBEq, Int.reduceLT, Int.reduceLE, Int.reducePow, Int.reduceToNat, Int.reduceAdd, Int.reduceMul, Int.reduceMod, Int.reduceDiv, Int.reduceSub, Nat.reduceAdd, Nat.reduceSub, Nat.reduceLT, Nat.reduceLeDiff, Nat.reducePow, true_or, or_true, or_false, false_or, beq_iff_eq, RV.t.injEq, RV.o.injEq, T.int.injEq, T.str.injEq, T.bl.injEq, Option.some.injEq, ge_iff_le, gt_iff_lt, exists_eq_left', exists_eq_left, List.any_cons, List.any_nil, List.contains_cons, List.contains_nil, exB, String.reduceBEq, String.reduceEq, beq_self_eq_true, bne_self_eq_false, Bool.not_eq_true, Bool.not_eq_false, Tabs.G, List.lookup_cons, List.lookup_nil], by simp -implicitDefEqProofs only [e3, wp_ok, wp_exc, wp_fail, wp_bind, wp_liftE, wp_noX, wp_ite, wp_var, wp_cst, wp_glb, wp_op0, wp_op1, wp_op2, wp_op3, wp_and, wp_or, wp_not, wp_iteE, wp_chain, wp_call, wp_tup, wp_lst, wp_dct, wp_comp, wp_nil, wp_cons, wt_and, wt_or, wt_not, wt_op2, wt_chain, wt_var, wt_cst, wt_op1, wt_call, wi_one, wi_two, asB_b, ws_ex, ws_asg, ws_sset, ws_ret, ws_ret0, ws_ite, ws_for, ws_whl, ws_raise, ws_try, tryP_nx, tryP_ret, tryP_exc, ws_cont, ws_brk, wb_nil, wb_cons, seqF_nx, seqF_ret, seqF_brk, seqF_cont, seqF_exc, endP_nx, endP_ret, endP_exc, fin_tree, fin_app, fin_app0, at_app0, at_app, at_lt, set_app0, set_app, set_lt, take_app, take_self, at_set, vw_t, vw_o, tree_frz, tree_lst, tree_dic, fz_t, fz_o, fzs_nil, fzs_cons, nrm_t, nrm_o, turnF_nx, turnF_cont, turnF_brk, turnF_ret, turnF_exc, stands_nil, stands_cons, wat_t, wat_o, s0, s1, s2, s3, w1, w2, bindT, sets, trB, truth, pre2, pre3, mid3, isL, isCmp, putO, slc, inC, wipeE, seq?, atI_0, atI_1, atI_2, atI_m, ixN_0, ixN_1, scalT, T.flat, teq, eqT, eqD, below, T.ty, List.map_cons, List.map_nil, List.cons_append, List.nil_append, List.append_assoc, List.append_nil, List.length_cons, List.length_nil, List.length_append, List.length_set, List.length_map, List.getElem?_cons_zero, List.getElem?_cons_succ, List.set_cons_zero, List.set_cons_succ, List.set_set, List.replicate_succ, List.replicate_zero, Option.map_some, Option.map_none, if_true, if_false, ite_true, ite_false, if_false_right, Bool.false_eq_true, decide_eq_true_eq, Bool.and_eq_true, Bool.or_eq_true, Bool.true_or, Bool.false_or, Bool.or_false, Bool.true_and, Bool.and_true, Bool.and_false, Bool.false_and, Bool.not_true, Bool.not_false, Nat.add_zero, Nat.zero_add, true_and, and_true, eq_self, reduceCtorEq, and_self, Int.reduceNeg, Int.reduceEq, Int.reduceBEq, Int.reduceLT, Int.reduceLE, Int.reducePow, Int.reduceToNat, Int.reduceAdd, Int.reduceMul, Int.reduceMod, Int.reduceDiv, Int.reduceSub, Nat.reduceAdd, Nat.reduceSub, Nat.reduceLT, Nat.reduceLeDiff, Nat.reducePow, true_or, or_true, or_false, false_or, beq_iff_eq, RV.t.injEq, RV.o.injEq, T.int.injEq, T.str.injEq, T.bl.injEq, Option.some.injEq, ge_iff_le, gt_iff_lt, exists_eq_left', exists_eq_left, List.any_cons, List.any_nil, List.contains_cons, List.contains_nil, exB, String.reduceBEq, String.reduceEq, beq_self_eq_true, bne_self_eq_false, Bool.not_eq_true, Bool.not_eq_false, Tabs.G, List.lookup_cons, List.lookup_nil], fun s hs => ?_⟩
    rcases List.mem_append.mp hs with h | h
    · exact h3 s h
    · rw [List.mem_singleton.mp h]
      exact tz
  · subst e1 e2
    have hj := tx_join h3
    have hsum := sum_len h3
    have e8 : ss.length = 8 := by rw [e3, range_length]
    rw [e8] at hj hsum
    simp -implicitDefEqProofs only [lp, range_length, wp_ok, wp_exc, wp_fail, wp_bind, wp_liftE, wp_noX, wp_ite, wp_var, wp_cst, wp_glb, wp_op0, wp_op1, wp_op2, wp_op3, wp_and, wp_or, wp_not, wp_iteE, wp_chain, wp_call, wp_tup, wp_lst, wp_dct, wp_comp, wp_nil, wp_cons, wt_and, wt_or, wt_not, wt_op2, wt_chain, wt_var, wt_cst, wt_op1, wt_call, wi_one, wi_two, asB_b, ws_ex, ws_asg, ws_sset, ws_ret, ws_ret0, ws_ite, ws_for, ws_whl, ws_raise, ws_try, tryP_nx, tryP_ret, tryP_exc, ws_cont, ws_brk, wb_nil, wb_cons, seqF_nx, seqF_ret, seqF_brk, seqF_cont, seqF_exc, endP_nx, endP_ret, endP_exc, fin_tree, fin_app, fin_app0, at_app0, at_app, at_lt, set_app0, set_app, set_lt, take_app, take_self, at_set, vw_t, vw_o, tree_frz, tree_lst, tree_dic, fz_t, fz_o, fzs_nil, fzs_cons, nrm_t, nrm_o, turnF_nx, turnF_cont, turnF_brk, turnF_ret, turnF_exc, stands_nil, stands_cons, wat_t, wat_o, s0, s1, s2, s3, w1, w2, bindT, sets, trB, truth, pre2, pre3, mid3, isL, isCmp, putO, slc, inC, wipeE, seq?, atI_0, atI_1, atI_2, atI_m, ixN_0, ixN_1, scalT, T.flat, teq, eqT, eqD, below, T.ty, List.map_cons, List.map_nil, List.cons_append, List.nil_append, List.append_assoc, List.append_nil, List.length_cons, List.length_nil, List.length_append, List.length_set, List.length_map, List.getElem?_cons_zero, List.getElem?_cons_succ, List.set_cons_zero, List.set_cons_succ, List.set_set, List.replicate_succ, List.replicate_zero, Option.map_some, Option.map_none, if_true, if_false, ite_true, ite_false, if_false_right, Bool.false_eq_true, decide_eq_true_eq, Bool.and_eq_true, Bool.or_eq_true, Bool.true_or, Bool.false_or, Bool.or_false, Bool.true_and, Bool.and_true, Bool.and_false, Bool.false_and, Bool.not_true, Bool.not_false, Nat.add_zero, Nat.zero_add, true_and, and_true, eq_self, reduceCtorEq, and_self, Int.reduceNeg, Int.reduceEq, Int.reduceBEq, Int.reduceLT, Int.reduceLE, Int.reducePow, Int.reduceToNat, Int.reduceAdd, Int.reduceMul, Int.reduceMod, Int.reduceDiv, Int.reduceSub, Nat.reduceAdd, Nat.reduceSub, Nat.reduceLT, Nat.reduceLeDiff, Nat.reducePow, true_or, or_true, or_false, false_or, beq_iff_eq, RV.t.injEq, RV.o.injEq, T.int.injEq, T.str.injEq, T.bl.injEq, Option.some.injEq, ge_iff_le, gt_iff_lt, exists_eq_left', exists_eq_left, List.any_cons, List.any_nil, List.contains_cons, List.contains_nil, exB, String.reduceBEq, String.reduceEq, beq_self_eq_true, bne_self_eq_false, Bool.not_eq_true, Bool.not_eq_false, Tabs.G, List.lookup_cons, List.lookup_nil, strs_some]
    generalize hb : Txt.join (Str.ofString "") ss = base at hj
    refine ⟨by have : (Str.ofString "").length = 0 := by decide
               rw [this]; omega, ?_⟩
    refine wp_use (take_ok (p := p) (c := c2) (m := m2) (by simp -implicitDefEqProofs only [lp, wp_ok, wp_exc, wp_fail, wp_bind, wp_liftE, wp_noX, wp_ite, wp_var, wp_cst, wp_glb, wp_op0, wp_op1, wp_op2, wp_op3, wp_and, wp_or, wp_not, wp_iteE, wp_chain, wp_call, wp_tup, wp_lst, wp_dct, wp_comp, wp_nil, wp_cons, wt_and, wt_or, wt_not, wt_op2, wt_chain, wt_var, wt_cst, wt_op1, wt_call, wi_one, wi_two, asB_b, ws_ex, ws_asg, ws_sset, ws_ret, ws_ret0, ws_ite, ws_for, ws_whl, ws_raise, ws_try, tryP_nx, tryP_ret, tryP_exc, ws_cont, ws_brk, wb_nil, wb_cons, seqF_nx, seqF_ret, seqF_brk, seqF_cont, seqF_exc, endP_nx, endP_ret, endP_exc, fin_tree, fin_app, fin_app0, at_app0, at_app, at_lt, set_app0, set_app, set_lt, take_app, take_self, at_set, vw_t, vw_o, tree_frz, tree_lst, tree_dic, fz_t, fz_o, fzs_nil, fzs_cons, nrm_t, nrm_o, turnF_nx, turnF_cont, turnF_brk, turnF_ret, turnF_exc, stands_nil, stands_cons, wat_t, wat_o, s0, s1, s2, s3, w1, w2, bindT, sets, trB, truth, pre2, pre3, mid3, isL, isCmp, putO, slc, inC, wipeE, seq?, atI_0, atI_1, atI_2, atI_m, ixN_0, ixN_1, scalT, T.flat, teq, eqT, eqD, below, T.ty, List.map_cons, List.map_nil, List.cons_append, List.nil_append, List.append_assoc, List.append_nil, List.length_cons, List.length_nil, List.length_append, List.length_set, List.length_map, List.getElem?_cons_zero, List.getElem?_cons_succ, List.set_cons_zero, List.set_cons_succ, List.set_set, List.replicate_succ, List.replicate_zero, Option.map_some, Option.map_none, if_true, if_false, ite_true, ite_false, if_false_right, Bool.false_eq_true, decide_eq_true_eq, Bool.and_eq_true, Bool.or_eq_true, Bool.true_or, Bool.false_or, Bool.or_false, Bool.true_and, Bool.and_true, Bool.and_false, Bool.false_and, Bool.not_true, Bool.not_false, Nat.add_zero, Nat.zero_add, true_and, and_true, eq_self, reduceCtorEq, and_self, Int.reduceNeg, Int.reduceEq, Int.reduceBEq, Int.reduceLT, Int.reduceLE, Int.reducePow, Int.reduceToNat, Int.reduceAdd, Int.reduceMul, Int.reduceMod, Int.reduceDiv, Int.reduceSub, Nat.reduceAdd, Nat.reduceSub, Nat.reduceLT, Nat.reduceLeDiff, Nat.reducePow, true_or, or_true, or_false, false_or, beq_iff_eq, RV.t.injEq, RV.o.injEq, T.int.injEq, T.str.injEq, T.bl.injEq, Option.some.injEq, ge_iff_le, gt_iff_lt, exists_eq_left', exists_eq_left, List.any_cons, List.any_nil, List.contains_cons, List.contains_nil, exB, String.reduceBEq, String.reduceEq, beq_self_eq_true, bne_self_eq_false, Bool.not_eq_true, Bool.not_eq_false, Tabs.G, List.lookup_cons, List.lookup_nil]) h2 (by decide) (by decide)) fun v S' ⟨sz, c3, m3, e1, z0, z1, h4, e2⟩ => ?_
    subst e1 e2
    simp -implicitDefEqProofs only [lp, wp_ok, wp_exc, wp_fail, wp_bind, wp_liftE, wp_noX, wp_ite, wp_var, wp_cst, wp_glb, wp_op0, wp_op1, wp_op2, wp_op3, wp_and, wp_or, wp_not, wp_iteE, wp_chain, wp_call, wp_tup, wp_lst, wp_dct, wp_comp, wp_nil, wp_cons, wt_and, wt_or, wt_not, wt_op2, wt_chain, wt_var, wt_cst, wt_op1, wt_call, wi_one, wi_two, asB_b, ws_ex, ws_asg, ws_sset, ws_ret, ws_ret0, ws_ite, ws_for, ws_whl, ws_raise, ws_try, tryP_nx, tryP_ret, tryP_exc, ws_cont, ws_brk, wb_nil, wb_cons, seqF_nx, seqF_ret, seqF_brk, seqF_cont, seqF_exc, endP_nx, endP_ret, endP_exc, fin_tree, fin_app, fin_app0, at_app0, at_app, at_lt, set_app0, set_app, set_lt, take_app, take_self, at_set, vw_t, vw_o, tree_frz, tree_lst, tree_dic, fz_t, fz_o, fzs_nil, fzs_cons, nrm_t, nrm_o, turnF_nx, turnF_cont, turnF_brk, turnF_ret, turnF_exc, stands_nil, stands_cons, wat_t, wat_o, s0, s1, s2, s3, w1, w2, bindT, sets, trB, truth, pre2, pre3, mid3, isL, isCmp, putO, slc, inC, wipeE, seq?, atI_0, atI_1, atI_2, atI_m, ixN_0, ixN_1, scalT, T.flat, teq, eqT, eqD, below, T.ty, List.map_cons, List.map_nil, List.cons_append, List.nil_append, List.append_assoc, List.append_nil, List.length_cons, List.length_nil, List.length_append, List.length_set, List.length_map, List.getElem?_cons_zero, List.getElem?_cons_succ, List.set_cons_zero, List.set_cons_succ, List.set_set, List.replicate_succ, List.replicate_zero, Option.map_some, Option.map_none, if_true, if_false, ite_true, ite_false, if_false_right, Bool.false_eq_true, decide_eq_true_eq, Bool.and_eq_true, Bool.or_eq_true, Bool.true_or, Bool.false_or, Bool.or_false, Bool.true_and, Bool.and_true, Bool.and_false, Bool.false_and, Bool.not_true, Bool.not_false, Nat.add_zero, Nat.zero_add, true_and, and_true, eq_self, reduceCtorEq, and_self, Int.reduceNeg, Int.reduceEq, Int.reduceBEq, Int.reduceLT, Int.reduceLE, Int.reducePow, Int.reduceToNat, Int.reduceAdd, Int.reduceMul, Int.reduceMod, Int.reduceDiv, Int.reduceSub, Nat.reduceAdd, Nat.reduceSub, Nat.reduceLT, Nat.reduceLeDiff, Nat.reducePow, true_or, or_true, or_false, false_or, beq_iff_eq, RV.t.injEq, RV.o.injEq, T.int.injEq, T.str.injEq, T.bl.injEq, Option.some.injEq, ge_iff_le, gt_iff_lt, exists_eq_left', exists_eq_left, List.any_cons, List.any_nil, List.contains_cons, List.contains_nil, exB, String.reduceBEq, String.reduceEq, beq_self_eq_true, bne_self_eq_false, Bool.not_eq_true, Bool.not_eq_false, Tabs.G, List.lookup_cons, List.lookup_nil]
    refine wp_use (take_ok (p := p) (c := c3) (m := m3) (by simp -implicitDefEqProofs only [lp, wp_ok, wp_exc, wp_fail, wp_bind, wp_liftE, wp_noX, wp_ite, wp_var, wp_cst, wp_glb, wp_op0, wp_op1, wp_op2, wp_op3, wp_and, wp_or, wp_not, wp_iteE, wp_chain, wp_call, wp_tup, wp_lst, wp_dct, wp_comp, wp_nil, wp_cons, wt_and, wt_or, wt_not, wt_op2, wt_chain, wt_var, wt_cst, wt_op1, wt_call, wi_one, wi_two, asB_b, ws_ex, ws_asg, ws_sset, ws_ret, ws_ret0, ws_ite, ws_for, ws_whl, ws_raise, ws_try, tryP_nx, tryP_ret, tryP_exc, ws_cont, ws_brk, wb_nil, wb_cons, seqF_nx, seqF_ret, seqF_brk, seqF_cont, seqF_exc, endP_nx, endP_ret, endP_exc, fin_tree, fin_app, fin_app0, at_app0, at_app, at_lt, set_app0, set_app, set_lt, take_app, take_self, at_set, vw_t, vw_o, tree_frz, tree_lst, tree_dic, fz_t, fz_o, fzs_nil, fzs_cons, nrm_t, nrm_o, turnF_nx, turnF_cont, turnF_brk, turnF_ret, turnF_exc, stands_nil, stands_cons, wat_t, wat_o, s0, s1, s2, s3, w1, w2, bindT, sets, trB, truth, pre2, pre3, mid3, isL, isCmp, putO, slc, inC, wipeE, seq?, atI_0, atI_1, atI_2, atI_m, ixN_0, ixN_1, scalT, T.flat, teq, eqT, eqD, below, T.ty, List.map_cons, List.map_nil, List.cons_append, List.nil_append, List.append_assoc, List.append_nil, List.length_cons, List.length_nil, List.length_append, List.length_set, List.length_map, List.getElem?_cons_zero, List.getElem?_cons_succ, List.set_cons_zero, List.set_cons_succ, List.set_set, List.replicate_succ, List.replicate_zero, Option.map_some, Option.map_none, if_true, if_false, ite_true, ite_false, if_false_right, Bool.false_eq_true, decide_eq_true_eq, Bool.and_eq_true, Bool.or_eq_true, Bool.true_or, Bool.false_or, Bool.or_false, Bool.true_and, Bool.and_true, Bool.and_false, Bool.false_and, Bool.not_true, Bool.not_false, Nat.add_zero, Nat.zero_add, true_and, and_true, eq_self, reduceCtorEq, and_self, Int.reduceNeg, Int.reduceEq, Int.reduceBEq, Int.reduceLT, Int.reduceLE, Int.reducePow, Int.reduceToNat, Int.reduceAdd, Int.reduceMul, Int.reduceMod, Int.reduceDiv, Int.reduceSub, Nat.reduceAdd, Nat.reduceSub, Nat.reduceLT, Nat.reduceLeDiff, Nat.reducePow, true_or, or_true, or_false, false_or, beq_iff_eq, RV.t.injEq, RV.o.injEq, T.int.injEq, T.str.injEq, T.bl.injEq, Option.some.injEq, ge_iff_le, gt_iff_lt, exists_eq_left', exists_eq_left, List.any_cons, List.any_nil, List.contains_cons, List.contains_nil, exB, String.reduceBEq, String.reduceEq, beq_self_eq_true, bne_self_eq_false, Bool.not_eq_true, Bool.not_eq_false, Tabs.G, List.lookup_cons, List.lookup_nil]) h4 (by omega) (by omega)) fun v S' ⟨sp, c4, m4, e1, p0, p1, h5, e2⟩ => ?_
    subst e1 e2
    simp -implicitDefEqProofs only [lp, wp_ok, wp_exc, wp_fail, wp_bind, wp_liftE, wp_noX, wp_ite, wp_var, wp_cst, wp_glb, wp_op0, wp_op1, wp_op2, wp_op3, wp_and, wp_or, wp_not, wp_iteE, wp_chain, wp_call, wp_tup, wp_lst, wp_dct, wp_comp, wp_nil, wp_cons, wt_and, wt_or, wt_not, wt_op2, wt_chain, wt_var, wt_cst, wt_op1, wt_call, wi_one, wi_two, asB_b, ws_ex, ws_asg, ws_sset, ws_ret, ws_ret0, ws_ite, ws_for, ws_whl, ws_raise, ws_try, tryP_nx, tryP_ret, tryP_exc, ws_cont, ws_brk, wb_nil, wb_cons, seqF_nx, seqF_ret, seqF_brk, seqF_cont, seqF_exc, endP_nx, endP_ret, endP_exc, fin_tree, fin_app, fin_app0, at_app0, at_app, at_lt, set_app0, set_app, set_lt, take_app, take_self, at_set, vw_t, vw_o, tree_frz, tree_lst, tree_dic, fz_t, fz_o, fzs_nil, fzs_cons, nrm_t, nrm_o, turnF_nx, turnF_cont, turnF_brk, turnF_ret, turnF_exc, stands_nil, stands_cons, wat_t, wat_o, s0, s1, s2, s3, w1, w2, bindT, sets, trB, truth, pre2, pre3, mid3, isL, isCmp, putO, slc, inC, wipeE, seq?, atI_0, atI_1, atI_2, atI_m, ixN_0, ixN_1, scalT, T.flat, teq, eqT, eqD, below, T.ty, List.map_cons, List.map_nil, List.cons_append, List.nil_append, List.append_assoc, List.append_nil, List.length_cons, List.length_nil, List.length_append, List.length_set, List.length_map, List.getElem?_cons_zero, List.getElem?_cons_succ, List.set_cons_zero, List.set_cons_succ, List.set_set, List.replicate_succ, List.replicate_zero, Option.map_some, Option.map_none, if_true, if_false, ite_true, ite_false, if_false_right, Bool.false_eq_true, decide_eq_true_eq, Bool.and_eq_true, Bool.or_eq_true, Bool.true_or, Bool.false_or, Bool.or_false, Bool.true_and, Bool.and_true, Bool.and_false, Bool.false_and, Bool.not_true, Bool.not_false, Nat.add_zero, Nat.zero_add, true_and, and_true, eq_self, reduceCtorEq, and_self, Int.reduceNeg, Int.reduceEq, Int.reduceBEq, Int.reduceLT, Int.reduceLE, Int.reducePow, Int.reduceToNat, Int.reduceAdd, Int.reduceMul, Int.reduceMod, Int.reduceDiv, Int.reduceSub, Nat.reduceAdd, Nat.reduceSub, Nat.reduceLT, Nat.reduceLeDiff, Nat.reducePow, true_or, or_true, or_false, false_or, beq_iff_eq, RV.t.injEq, RV.o.injEq, T.int.injEq, T.str.injEq, T.bl.injEq, Option.some.injEq, ge_iff_le, gt_iff_lt, exists_eq_left', exists_eq_left, List.any_cons, List.any_nil, List.contains_cons, List.contains_nil, exB, String.reduceBEq, String.reduceEq, beq_self_eq_true, bne_self_eq_false, Bool.not_eq_true, Bool.not_eq_false, Tabs.G, List.lookup_cons, List.lookup_nil]
    refine wp_use (take_ok (p := p) (c := c4) (m := m4) (by simp -implicitDefEqProofs only [lp, wp_ok, wp_exc, wp_fail, wp_bind, wp_liftE, wp_noX, wp_ite, wp_var, wp_cst, wp_glb, wp_op0, wp_op1, wp_op2, wp_op3, wp_and, wp_or, wp_not, wp_iteE, wp_chain, wp_call, wp_tup, wp_lst, wp_dct, wp_comp, wp_nil, wp_cons, wt_and, wt_or, wt_not, wt_op2, wt_chain, wt_var, wt_cst, wt_op1, wt_call, wi_one, wi_two, asB_b, ws_ex, ws_asg, ws_sset, ws_ret, ws_ret0, ws_ite, ws_for, ws_whl, ws_raise, ws_try, tryP_nx, tryP_ret, tryP_exc, ws_cont, ws_brk, wb_nil, wb_cons, seqF_nx, seqF_ret, seqF_brk, seqF_cont, seqF_exc, endP_nx, endP_ret, endP_exc, fin_tree, fin_app, fin_app0, at_app0, at_app, at_lt, set_app0, set_app, set_lt, take_app, take_self, at_set, vw_t, vw_o, tree_frz, tree_lst, tree_dic, fz_t, fz_o, fzs_nil, fzs_cons, nrm_t, nrm_o, turnF_nx, turnF_cont, turnF_brk, turnF_ret, turnF_exc, stands_nil, stands_cons, wat_t, wat_o, s0, s1, s2, s3, w1, w2, bindT, sets, trB, truth, pre2, pre3, mid3, isL, isCmp, putO, slc, inC, wipeE, seq?, atI_0, atI_1, atI_2, atI_m, ixN_0, ixN_1, scalT, T.flat, teq, eqT, eqD, below, T.ty, List.map_cons, List.map_nil, List.cons_append, List.nil_append, List.append_assoc, List.append_nil, List.length_cons, List.length_nil, List.length_append, List.length_set, List.length_map, List.getElem?_cons_zero, List.getElem?_cons_succ, List.set_cons_zero, List.set_cons_succ, List.set_set, List.replicate_succ, List.replicate_zero, Option.map_some, Option.map_none, if_true, if_false, ite_true, ite_false, if_false_right, Bool.false_eq_true, decide_eq_true_eq, Bool.and_eq_true, Bool.or_eq_true, Bool.true_or, Bool.false_or, Bool.or_false, Bool.true_and, Bool.and_true, Bool.and_false, Bool.false_and, Bool.not_true, Bool.not_false, Nat.add_zero, Nat.zero_add, true_and, and_true, eq_self, reduceCtorEq, and_self, Int.reduceNeg, Int.reduceEq, Int.reduceBEq, Int.reduceLT, Int.reduceLE, Int.reducePow, Int.reduceToNat, Int.reduceAdd, Int.reduceMul, Int.reduceMod, Int.reduceDiv, Int.reduceSub, Nat.reduceAdd, Nat.reduceSub, Nat.reduceLT, Nat.reduceLeDiff, Nat.reducePow, true_or, or_true, or_false, false_or, beq_iff_eq, RV.t.injEq, RV.o.injEq, T.int.injEq, T.str.injEq, T.bl.injEq, Option.some.injEq, ge_iff_le, gt_iff_lt, exists_eq_left', exists_eq_left, List.any_cons, List.any_nil, List.contains_cons, List.contains_nil, exB, String.reduceBEq, String.reduceEq, beq_self_eq_true, bne_self_eq_false, Bool.not_eq_true, Bool.not_eq_false, Tabs.G, List.lookup_cons, List.lookup_nil]) h5 (by omega) (by omega)) fun v S' ⟨fi, c5, m5, e1, f0, f1, h6, e2⟩ => ?_
    subst e1 e2
    simp -implicitDefEqProofs only [lp, wp_ok, wp_exc, wp_fail, wp_bind, wp_liftE, wp_noX, wp_ite, wp_var, wp_cst, wp_glb, wp_op0, wp_op1, wp_op2, wp_op3, wp_and, wp_or, wp_not, wp_iteE, wp_chain, wp_call, wp_tup, wp_lst, wp_dct, wp_comp, wp_nil, wp_cons, wt_and, wt_or, wt_not, wt_op2, wt_chain, wt_var, wt_cst, wt_op1, wt_call, wi_one, wi_two, asB_b, ws_ex, ws_asg, ws_sset, ws_ret, ws_ret0, ws_ite, ws_for, ws_whl, ws_raise, ws_try, tryP_nx, tryP_ret, tryP_exc, ws_cont, ws_brk, wb_nil, wb_cons, seqF_nx, seqF_ret, seqF_brk, seqF_cont, seqF_exc, endP_nx, endP_ret, endP_exc, fin_tree, fin_app, fin_app0, at_app0, at_app, at_lt, set_app0, set_app, set_lt, take_app, take_self, at_set, vw_t, vw_o, tree_frz, tree_lst, tree_dic, fz_t, fz_o, fzs_nil, fzs_cons, nrm_t, nrm_o, turnF_nx, turnF_cont, turnF_brk, turnF_ret, turnF_exc, stands_nil, stands_cons, wat_t, wat_o, s0, s1, s2, s3, w1, w2, bindT, sets, trB, truth, pre2, pre3, mid3, isL, isCmp, putO, slc, inC, wipeE, seq?, atI_0, atI_1, atI_2, atI_m, ixN_0, ixN_1, scalT, T.flat, teq, eqT, eqD, below, T.ty, List.map_cons, List.map_nil, List.cons_append, List.nil_append, List.append_assoc, List.append_nil, List.length_cons, List.length_nil, List.length_append, List.length_set, List.length_map, List.getElem?_cons_zero, List.getElem?_cons_succ, List.set_cons_zero, List.set_cons_succ, List.set_set, List.replicate_succ, List.replicate_zero, Option.map_some, Option.map_none, if_true, if_false, ite_true, ite_false, if_false_right, Bool.false_eq_true, decide_eq_true_eq, Bool.and_eq_true, Bool.or_eq_true, Bool.true_or, Bool.false_or, Bool.or_false, Bool.true_and, Bool.and_true, Bool.and_false, Bool.false_and, Bool.not_true, Bool.not_false, Nat.add_zero, Nat.zero_add, true_and, and_true, eq_self, reduceCtorEq, and_self, Int.reduceNeg, Int.reduceEq, Int.reduceBEq, Int.reduceLT, Int.reduceLE, Int.reducePow, Int.reduceToNat, Int.reduceAdd, Int.reduceMul, Int.reduceMod, Int.reduceDiv, Int.reduceSub, Nat.reduceAdd, Nat.reduceSub, Nat.reduceLT, Nat.reduceLeDiff, Nat.reducePow, true_or, or_true, or_false, false_or, beq_iff_eq, RV.t.injEq, RV.o.injEq, T.int.injEq, T.str.injEq, T.bl.injEq, Option.some.injEq, ge_iff_le, gt_iff_lt, exists_eq_left', exists_eq_left, List.any_cons, List.any_nil, List.contains_cons, List.contains_nil, exB, String.reduceBEq, String.reduceEq, beq_self_eq_true, bne_self_eq_false, Bool.not_eq_true, Bool.not_eq_false, Tabs.G, List.lookup_cons, List.lookup_nil]
    refine ⟨⟨by omega, by omega⟩, ?_⟩
    refine wp_forL (fun i env S' => ∃ (ns : List Str) (a b : Option RV), S' = S.set p (.lst [.int c5, .int m5]) ++ [.lst (ss.map T.str), .lst (ns.map T.str)] ∧ ns.length = i ∧ (∀ s ∈ ns, Tx 30 s) ∧
      env = [some (.o p), some (.t (.int n)), some (.t (.str abc)), some (.t (.int way)), some (.t (.str base)), some (.t (.int (1 + sz))), some (.t (.int sp)), some (.t (.int fi)), some (.o (S.length + 1)), a, b])
      ⟨[], none, none, rfl, rfl, (by intro s h; cases h), rfl⟩ (fun _ _ _ _ _ => stands_nil ▸ trivial) (fun i x env S' hx ⟨ns, a, b, e1, e2, e3, e4⟩ => ?_) (fun env S' ⟨ns, a, b, e1, e2, e3, e4⟩ => ?_)
    · subst e1 e4
      obtain ⟨hi, rfl⟩ := range_get hx
      have hlt : ns.length < sizeLine := small1000 (by simp at hi; omega)
      have hbs : base.length ≤ sizeLine := tx_size hj (by decide)
      have hsz : (Str.ofString "abcdefghijklmnopqrstuvwxyz").length ≤ sizeLine := Nat.le_of_lt (small1000 (by rw [abc_len]; decide))
      obtain ⟨z, hz, tz⟩ := abc_at (r := (fi + (0 + (i : Int))) % 26) (mod_nn _ (by decide)) (mod_lt' _ (by decide))
      rcases (show way = 1 ∨ way = 0 by omega) with rfl | rfl
      · simp -implicitDefEqProofs only [wp_stepF, lp, hlt, hbs, List.length_map, wp_ok, wp_exc, wp_fail, wp_bind, wp_liftE, wp_noX, wp_ite, wp_var, wp_cst, wp_glb, wp_op0, wp_op1, wp_op2, wp_op3, wp_and, wp_or, wp_not, wp_iteE, wp_chain, wp_call, wp_tup, wp_lst, wp_dct, wp_comp, wp_nil, wp_cons, wt_and, wt_or, wt_not, wt_op2, wt_chain, wt_var, wt_cst, wt_op1, wt_call, wi_one, wi_two, asB_b, ws_ex, ws_asg, ws_sset, ws_ret, ws_ret0, ws_ite, ws_for, ws_whl, ws_raise, ws_try, tryP_nx, tryP_ret, tryP_exc, ws_cont, ws_brk, wb_nil, wb_cons, seqF_nx, seqF_ret, seqF_brk, seqF_cont, seqF_exc, endP_nx, endP_ret, endP_exc, fin_tree, fin_app, fin_app0, at_app0, at_app, at_lt, set_app0, set_app, set_lt, take_app, take_self, at_set, vw_t, vw_o, tree_frz, tree_lst, tree_dic, fz_t, fz_o, fzs_nil, fzs_cons, nrm_t, nrm_o, turnF_nx, turnF_cont, turnF_brk, turnF_ret, turnF_exc, stands_nil, stands_cons, wat_t, wat_o, s0, s1, s2, s3, w1, w2, bindT, sets, trB, truth, pre2, pre3, mid3, isL, isCmp, putO, slc, inC, wipeE, seq?, atI_0, atI_1, atI_2, atI_m, ixN_0, ixN_1, scalT, T.flat, teq, eqT, eqD, below, T.ty, List.map_cons, List.map_nil, List.cons_append, List.nil_append, List.append_assoc, List.append_nil, List.length_cons, List.length_nil, List.length_append, List.length_set, List.length_map, List.getElem?_cons_zero, List.getElem?_cons_succ, List.set_cons_zero, List.set_cons_succ, List.set_set, List.replicate_succ, List.replicate_zero, Option.map_some, Option.map_none, if_true, if_false, ite_true, ite_false, if_false_right, Bool.false_eq_true, decide_eq_true_eq, Bool.and_eq_true, Bool.or_eq_true, Bool.true_or, Bool.false_or, Bool.or_false, Bool.true_and, Bool.and_true, Bool.and_false, Bool.false_and, Bool.not_true, Bool.not_false, Nat.add_zero, Nat.zero_add, true_and, and_true, eq_self, reduceCtorEq, and_self, Int.reduceNeg, Int.reduceEq, Int.reduceBEq, Int.reduceLT, Int.reduceLE, Int.reducePow, Int.reduceToNat, Int.reduceAdd, Int.reduceMul, Int.reduceMod, Int.reduceDiv, Int.reduceSub, Nat.reduceAdd, Nat.reduceSub, Nat.reduceLT, Nat.reduceLeDiff, Nat.reducePow, true_or, or_true, or_false, false_or, beq_iff_eq, RV.t.injEq, RV.o.injEq, T.int.injEq, T.str.injEq, T.bl.injEq, Option.some.injEq, ge_iff_le, gt_iff_lt, exists_eq_left', exists_eq_left, List.any_cons, List.any_nil, List.contains_cons, List.contains_nil, exB, String.reduceBEq, String.reduceEq, beq_self_eq_true, bne_self_eq_false, Bool.not_eq_true, Bool.not_eq_false, Tabs.G, List.lookup_cons, List.lookup_nil]
        refine ⟨ns ++ [cutS base none (some (1 + (1 + sz + (0 + (i : Int))) % 8))], _, _, by simp -implicitDefEqProofs only [List.map_append, wp_ok, wp_exc, wp_fail, wp_bind, wp_liftE, wp_noX, wp_ite, wp_var, wp_cst, wp_glb, wp_op0, wp_op1, wp_op2, wp_op3, wp_and, wp_or, wp_not, wp_iteE, wp_chain, wp_call, wp_tup, wp_lst, wp_dct, wp_comp, wp_nil, wp_cons, wt_and, wt_or, wt_not, wt_op2, wt_chain, wt_var, wt_cst, wt_op1, wt_call, wi_one, wi_two, asB_b, ws_ex, ws_asg, ws_sset, ws_ret, ws_ret0, ws_ite, ws_for, ws_whl, ws_raise, ws_try, tryP_nx, tryP_ret, tryP_exc, ws_cont, ws_brk, wb_nil, wb_cons, seqF_nx, seqF_ret, seqF_brk, seqF_cont, seqF_exc, endP_nx, endP_ret, endP_exc, fin_tree, fin_app, fin_app0, at_app0, at_app, at_lt, set_app0, set_app, set_lt, take_app, take_self, at_set, vw_t, vw_o, tree_frz, tree_lst, tree_dic, fz_t, fz_o, fzs_nil, fzs_cons, nrm_t, nrm_o, turnF_nx, turnF_cont, turnF_brk, turnF_ret, turnF_exc, stands_nil, stands_cons, wat_t, wat_o, s0, s1, s2, s3, w1, w2, bindT, sets, trB, truth, pre2, pre3, mid3, isL, isCmp, putO, slc, inC, wipeE, seq?, atI_0, atI_1, atI_2, atI_m, ixN_0, ixN_1, scalT, T.flat, teq, eqT, eqD, below, T.ty, List.map_cons, List.map_nil, List.cons_append, List.nil_append, List.append_assoc, List.append_nil, List.length_cons, List.length_nil, List.length_append, List.length_set, List.length_map, List.getElem?_cons_zero, List.getElem?_cons_succ, List.set_cons_zero, List.set_cons_succ, List.set_set, List.replicate_succ, List.replicate_zero, Option.map_some, Option.map_none, if_true, if_false, ite_true, ite_false, if_false_right, Bool.false_eq_true, decide_eq_true_eq, Bool.and_eq_true, Bool.or_eq_true, Bool.true_or, Bool.false_or, Bool.or_false, Bool.true_and, Bool.and_true, Bool.and_false, Bool.false_and, Bool.not_true, Bool.not_false, Nat.add_zero, Nat.zero_add, true_and, and_true, eq_self, reduceCtorEq, and_self, Int.reduceNeg, Int.reduceEq, Int.reduceBEq, Int.reduceLT, Int.reduceLE, Int.reducePow, Int.reduceToNat, Int.reduceAdd, Int.reduceMul, Int.reduceMod, Int.reduceDiv, Int.reduceSub, Nat.reduceAdd, Nat.reduceSub, Nat.reduceLT, Nat.reduceLeDiff, Nat.reducePow, true_or, or_true, or_false, false_or, beq_iff_eq, RV.t.injEq, RV.o.injEq, T.int.injEq, T.str.injEq, T.bl.injEq, Option.some.injEq, ge_iff_le, gt_iff_lt, exists_eq_left', exists_eq_left, List.any_cons, List.any_nil, List.contains_cons, List.contains_nil, exB, String.reduceBEq, String.reduceEq, beq_self_eq_true, bne_self_eq_false, Bool.not_eq_true, Bool.not_eq_false, Tabs.G, List.lookup_cons, List.lookup_nil], by simp -implicitDefEqProofs only [e2, wp_ok, wp_exc, wp_fail, wp_bind, wp_liftE, wp_noX, wp_ite, wp_var, wp_cst, wp_glb, wp_op0, wp_op1, wp_op2, wp_op3, wp_and, wp_or, wp_not, wp_iteE, wp_chain, wp_call, wp_tup, wp_lst, wp_dct, wp_comp, wp_nil, wp_cons, wt_and, wt_or, wt_not, wt_op2, wt_chain, wt_var, wt_cst, wt_op1, wt_call, wi_one, wi_two, asB_b, ws_ex, ws_asg, ws_sset, ws_ret, ws_ret0, ws_ite, ws_for, ws_whl, ws_raise, ws_try, tryP_nx, tryP_ret, tryP_exc, ws_cont, ws_brk, wb_nil, wb_cons, seqF_nx, seqF_ret, seqF_brk, seqF_cont, seqF_exc, endP_nx, endP_ret, endP_exc, fin_tree, fin_app, fin_app0, at_app0, at_app, at_lt, set_app0, set_app, set_lt, take_app, take_self, at_set, vw_t, vw_o, tree_frz, tree_lst, tree_dic, fz_t, fz_o, fzs_nil, fzs_cons, nrm_t, nrm_o, turnF_nx, turnF_cont, turnF_brk, turnF_ret, turnF_exc, stands_nil, stands_cons, wat_t, wat_o, s0, s1, s2, s3, w1, w2, bindT, sets, trB, truth, pre2, pre3, mid3, isL, isCmp, putO, slc, inC, wipeE, seq?, atI_0, atI_1, atI_2, atI_m, ixN_0, ixN_1, scalT, T.flat, teq, eqT, eqD, below, T.ty, List.map_cons, List.map_nil, List.cons_append, List.nil_append, List.append_assoc, List.append_nil, List.length_cons, List.length_nil, List.length_append, List.length_set, List.length_map, List.getElem?_cons_zero, List.getElem?_cons_succ, List.set_cons_zero, List.set_cons_succ, List.set_set, List.replicate_succ, List.replicate_zero, Option.map_some, Option.map_none, if_true, if_false, ite_true, ite_false, if_false_right, Bool.false_eq_true, decide_eq_true_eq, Bool.and_eq_true, Bool.or_eq_true, Bool.true_or, Bool.false_or, Bool.or_false, Bool.true_and, Bool.and_true, Bool.and_false, Bool.false_and, Bool.not_true, Bool.not_false, Nat.add_zero, Nat.zero_add, true_and, and_true, eq_self, reduceCtorEq, and_self, Int.reduceNeg, Int.reduceEq, Int.reduceBEq, Int.reduceLT, Int.reduceLE, Int.reducePow, Int.reduceToNat, Int.reduceAdd, Int.reduceMul, Int.reduceMod, Int.reduceDiv, Int.reduceSub, Nat.reduceAdd, Nat.reduceSub, Nat.reduceLT, Nat.reduceLeDiff, Nat.reducePow, true_or, or_true, or_false, false_or, beq_iff_eq, RV.t.injEq, RV.o.injEq, T.int.injEq, T.str.injEq, T.bl.injEq, Option.some.injEq, ge_iff_le, gt_iff_lt, exists_eq_left', exists_eq_left, List.any_cons, List.any_nil, List.contains_cons, List.contains_nil, exB, String.reduceBEq, String.reduceEq, beq_self_eq_true, bne_self_eq_false, Bool.not_eq_true, Bool.not_eq_false, Tabs.G, List.lookup_cons, List.lookup_nil], fun s hs => ?_, rfl⟩
        rcases List.mem_append.mp hs with h | h
        · exact e3 s h
        · rw [List.mem_singleton.mp h]
          exact (tx_cut hj _ _).mono (by decide)
      · have t1 := tx_cut hj none (some sp)
        have t2 := tx_cut hj (some (sp + 1)) (some (1 + sz))
        have q1 := tx_size2 t1 tz (by decide)
        have t3 := tx_app t1 tz
        have q2 := tx_size2 t3 t2 (by decide)
        simp -implicitDefEqProofs only [wp_stepF, lp, hlt, hbs, hsz, hz, q1, q2, List.length_map, wp_ok, wp_exc, wp_fail, wp_bind, wp_liftE, wp_noX, wp_ite, wp_var, wp_cst, wp_glb, wp_op0, wp_op1, wp_op2, wp_op3, wp_and, wp_or, wp_not, wp_iteE, wp_chain, wp_call, wp_tup, wp_lst, wp_dct, wp_comp, wp_nil, wp_cons, wt_and, wt_or, wt_not, wt_op2, wt_chain, wt_var, wt_cst, wt_op1, wt_call, wi_one, wi_two, asB_b, ws_ex, ws_asg, ws_sset, ws_ret, ws_ret0, ws_ite, ws_for, ws_whl, ws_raise, ws_try, tryP_nx, tryP_ret, tryP_exc, ws_cont, ws_brk, wb_nil, wb_cons, seqF_nx, seqF_ret, seqF_brk, seqF_cont, seqF_exc, endP_nx, endP_ret, endP_exc, fin_tree, fin_app, fin_app0, at_app0, at_app, at_lt, set_app0, set_app, set_lt, take_app, take_self, at_set, vw_t, vw_o, tree_frz, tree_lst, tree_dic, fz_t, fz_o, fzs_nil, fzs_cons, nrm_t, nrm_o, turnF_nx, turnF_cont, turnF_brk, turnF_ret, turnF_exc, stands_nil, stands_cons, wat_t, wat_o, s0, s1, s2, s3, w1, w2, bindT, sets, trB, truth, pre2, pre3, mid3, isL, isCmp, putO, slc, inC, wipeE, seq?, atI_0, atI_1, atI_2, atI_m, ixN_0, ixN_1, scalT, T.flat, teq, eqT, eqD, below, T.ty, List.map_cons, List.map_nil, List.cons_append, List.nil_append, List.append_assoc, List.append_nil, List.length_cons, List.length_nil, List.length_append, List.length_set, List.length_map, List.getElem?_cons_zero, List.getElem?_cons_succ, List.set_cons_zero, List.set_cons_succ, List.set_set, List.replicate_succ, List.replicate_zero, Option.map_some, Option.map_none, if_true, if_false, ite_true, ite_false, if_false_right, Bool.false_eq_true, decide_eq_true_eq, Bool.and_eq_true, Bool.or_eq_true, Bool.true_or, Bool.false_or, Bool.or_false, Bool.true_and, Bool.and_true, Bool.and_false, Bool.false_and, Bool.not_true, Bool.not_false, Nat.add_zero, Nat.zero_add, true_and, and_true, eq_self, reduceCtorEq, and_self, Int.reduceNeg, Int.reduceEq, Int.reduceBEq, Int.reduceLT, Int.reduceLE, Int.reducePow, Int.reduceToNat, Int.reduceAdd, Int.reduceMul, Int.reduceMod, Int.reduceDiv, Int.reduceSub, Nat.reduceAdd, Nat.reduceSub, Nat.reduceLT, Nat.reduceLeDiff, Nat.reducePow, true_or, or_true, or_false, false_or, beq_iff_eq, RV.t.injEq, RV.o.injEq, T.int.injEq, T.str.injEq, T.bl.injEq, Option.some.injEq, ge_iff_le, gt_iff_lt, exists_eq_left', exists_eq_left, List.any_cons, List.any_nil, List.contains_cons, List.contains_nil, exB, String.reduceBEq, String.reduceEq, beq_self_eq_true, bne_self_eq_false, Bool.not_eq_true, Bool.not_eq_false, Tabs.G, List.lookup_cons, List.lookup_nil]
        refine ⟨ns ++ [cutS base none (some sp) ++ z ++ cutS base (some (sp + 1)) (some (1 + sz))], _, _, by simp -implicitDefEqProofs only [List.map_append, wp_ok, wp_exc, wp_fail, wp_bind, wp_liftE, wp_noX, wp_ite, wp_var, wp_cst, wp_glb, wp_op0, wp_op1, wp_op2, wp_op3, wp_and, wp_or, wp_not, wp_iteE, wp_chain, wp_call, wp_tup, wp_lst, wp_dct, wp_comp, wp_nil, wp_cons, wt_and, wt_or, wt_not, wt_op2, wt_chain, wt_var, wt_cst, wt_op1, wt_call, wi_one, wi_two, asB_b, ws_ex, ws_asg, ws_sset, ws_ret, ws_ret0, ws_ite, ws_for, ws_whl, ws_raise, ws_try, tryP_nx, tryP_ret, tryP_exc, ws_cont, ws_brk, wb_nil, wb_cons, seqF_nx, seqF_ret, seqF_brk, seqF_cont, seqF_exc, endP_nx, endP_ret, endP_exc, fin_tree, fin_app, fin_app0, at_app0, at_app, at_lt, set_app0, set_app, set_lt, take_app, take_self, at_set, vw_t, vw_o, tree_frz, tree_lst, tree_dic, fz_t, fz_o, fzs_nil, fzs_cons, nrm_t, nrm_o, turnF_nx, turnF_cont, turnF_brk, turnF_ret, turnF_exc, stands_nil, stands_cons, wat_t, wat_o, s0, s1, s2, s3, w1, w2, bindT, sets, trB, truth, pre2, pre3, mid3, isL, isCmp, putO, slc, inC, wipeE, seq?, atI_0, atI_1, atI_2, atI_m, ixN_0, ixN_1, scalT, T.flat, teq, eqT, eqD, below, T.ty, List.map_cons, List.map_nil, List.cons_append, List.nil_append, List.append_assoc, List.append_nil, List.length_cons, List.length_nil, List.length_append, List.length_set, List.length_map, List.getElem?_cons_zero, List.getElem?_cons_succ, List.set_cons_zero, List.set_cons_succ, List.set_set, List.replicate_succ, List.replicate_zero, Option.map_some, Option.map_none, if_true, if_false, ite_true, ite_false, if_false_right, Bool.false_eq_true, decide_eq_true_eq, Bool.and_eq_true, Bool.or_eq_true, Bool.true_or, Bool.false_or, Bool.or_false, Bool.true_and, Bool.and_true, Bool.and_false, Bool.false_and, Bool.not_true, Bool.not_false, Nat.add_zero, Nat.zero_add, true_and, and_true, eq_self, reduceCtorEq, and_self, Int.reduceNeg, Int.reduceEq, Int.reduceBEq, Int.reduceLT, Int.reduceLE, Int.reducePow, Int.reduceToNat, Int.reduceAdd, Int.reduceMul, Int.reduceMod, Int.reduceDiv, Int.reduceSub, Nat.reduceAdd, Nat.reduceSub, Nat.reduceLT, Nat.reduceLeDiff, Nat.reducePow, true_or, or_true, or_false, false_or, beq_iff_eq, RV.t.injEq, RV.o.injEq, T.int.injEq, T.str.injEq, T.bl.injEq, Option.some.injEq, ge_iff_le, gt_iff_lt, exists_eq_left', exists_eq_left, List.any_cons, List.any_nil, List.contains_cons, List.contains_nil, exB, String.reduceBEq, String.reduceEq, beq_self_eq_true, bne_self_eq_false, Bool.not_eq_true, Bool.not_eq_false, Tabs.G, List.lookup_cons, List.lookup_nil], by simp -implicitDefEqProofs only [e2, wp_ok, wp_exc, wp_fail, wp_bind, wp_liftE, wp_noX, wp_ite, wp_var, wp_cst, wp_glb, wp_op0, wp_op1, wp_op2, wp_op3, wp_and, wp_or, wp_not, wp_iteE, wp_chain, wp_call, wp_tup, wp_lst, wp_dct, wp_comp, wp_nil, wp_cons, wt_and, wt_or, wt_not, wt_op2, wt_chain, wt_var, wt_cst, wt_op1, wt_call, wi_one, wi_two, asB_b, ws_ex, ws_asg, ws_sset, ws_ret, ws_ret0, ws_ite, ws_for, ws_whl, ws_raise, ws_try, tryP_nx, tryP_ret, tryP_exc, ws_cont, ws_brk, wb_nil, wb_cons, seqF_nx, seqF_ret, seqF_brk, seqF_cont, seqF_exc, endP_nx, endP_ret, endP_exc, fin_tree, fin_app, fin_app0, at_app0, at_app, at_lt, set_app0, set_app, set_lt, take_app, take_self, at_set, vw_t, vw_o, tree_frz, tree_lst, tree_dic, fz_t, fz_o, fzs_nil, fzs_cons, nrm_t, nrm_o, turnF_nx, turnF_cont, turnF_brk, turnF_ret, turnF_exc, stands_nil, stands_cons, wat_t, wat_o, s0, s1, s2, s3, w1, w2, bindT, sets, trB, truth, pre2, pre3, mid3, isL, isCmp, putO, slc, inC, wipeE, seq?, atI_0, atI_1, atI_2, atI_m, ixN_0, ixN_1, scalT, T.flat, teq, eqT, eqD, below, T.ty, List.map_cons, List.map_nil, List.cons_append, List.nil_append, List.append_assoc, List.append_nil, List.length_cons, List.length_nil, List.length_append, List.length_set, List.length_map, List.getElem?_cons_zero, List.getElem?_cons_succ, List.set_cons_zero, List.set_cons_succ, List.set_set, List.replicate_succ, List.replicate_zero, Option.map_some, Option.map_none, if_true, if_false, ite_true, ite_false, if_false_right, Bool.false_eq_true, decide_eq_true_eq, Bool.and_eq_true, Bool.or_eq_true, Bool.true_or, Bool.false_or, Bool.or_false, Bool.true_and, Bool.and_true, Bool.and_false, Bool.false_and, Bool.not_true, Bool.not_false, Nat.add_zero, Nat.zero_add, true_and, and_true, eq_self, reduceCtorEq, and_self, Int.reduceNeg, Int.reduceEq, Int.reduceBEq, Int.reduceLT, Int.reduceLE, Int.reducePow, Int.reduceToNat, Int.reduceAdd, Int.reduceMul, Int.reduceMod, Int.reduceDiv, Int.reduceSub, Nat.reduceAdd, Nat.reduceSub, Nat.reduceLT, Nat.reduceLeDiff, Nat.reducePow, true_or, or_true, or_false, false_or, beq_iff_eq, RV.t.injEq, RV.o.injEq, T.int.injEq, T.str.injEq, T.bl.injEq, Option.some.injEq, ge_iff_le, gt_iff_lt, exists_eq_left', exists_eq_left, List.any_cons, List.any_nil, List.contains_cons, List.contains_nil, exB, String.reduceBEq, String.reduceEq, beq_self_eq_true, bne_self_eq_false, Bool.not_eq_true, Bool.not_eq_false, Tabs.G, List.lookup_cons, List.lookup_nil], fun s hs => ?_, rfl⟩
        rcases List.mem_append.mp hs with h | h
        · exact e3 s h
        · rw [List.mem_singleton.mp h]
          exact (tx_app t3 t2).mono (by decide)
    · subst e1 e4
      simp -implicitDefEqProofs only [lp, wp_ok, wp_exc, wp_fail, wp_bind, wp_liftE, wp_noX, wp_ite, wp_var, wp_cst, wp_glb, wp_op0, wp_op1, wp_op2, wp_op3, wp_and, wp_or, wp_not, wp_iteE, wp_chain, wp_call, wp_tup, wp_lst, wp_dct, wp_comp, wp_nil, wp_cons, wt_and, wt_or, wt_not, wt_op2, wt_chain, wt_var, wt_cst, wt_op1, wt_call, wi_one, wi_two, asB_b, ws_ex, ws_asg, ws_sset, ws_ret, ws_ret0, ws_ite, ws_for, ws_whl, ws_raise, ws_try, tryP_nx, tryP_ret, tryP_exc, ws_cont, ws_brk, wb_nil, wb_cons, seqF_nx, seqF_ret, seqF_brk, seqF_cont, seqF_exc, endP_nx, endP_ret, endP_exc, fin_tree, fin_app, fin_app0, at_app0, at_app, at_lt, set_app0, set_app, set_lt, take_app, take_self, at_set, vw_t, vw_o, tree_frz, tree_lst, tree_dic, fz_t, fz_o, fzs_nil, fzs_cons, nrm_t, nrm_o, turnF_nx, turnF_cont, turnF_brk, turnF_ret, turnF_exc, stands_nil, stands_cons, wat_t, wat_o, s0, s1, s2, s3, w1, w2, bindT, sets, trB, truth, pre2, pre3, mid3, isL, isCmp, putO, slc, inC, wipeE, seq?, atI_0, atI_1, atI_2, atI_m, ixN_0, ixN_1, scalT, T.flat, teq, eqT, eqD, below, T.ty, List.map_cons, List.map_nil, List.cons_append, List.nil_append, List.append_assoc, List.append_nil, List.length_cons, List.length_nil, List.length_append, List.length_set, List.length_map, List.getElem?_cons_zero, List.getElem?_cons_succ, List.set_cons_zero, List.set_cons_succ, List.set_set, List.replicate_succ, List.replicate_zero, Option.map_some, Option.map_none, if_true, if_false, ite_true, ite_false, if_false_right, Bool.false_eq_true, decide_eq_true_eq, Bool.and_eq_true, Bool.or_eq_true, Bool.true_or, Bool.false_or, Bool.or_false, Bool.true_and, Bool.and_true, Bool.and_false, Bool.false_and, Bool.not_true, Bool.not_false, Nat.add_zero, Nat.zero_add, true_and, and_true, eq_self, reduceCtorEq, and_self, Int.reduceNeg, Int.reduceEq, Int.reduceBEq, Int.reduceLT, Int.reduceLE, Int.reducePow, Int.reduceToNat, Int.reduceAdd, Int.reduceMul, Int.reduceMod, Int.reduceDiv, Int.reduceSub, Nat.reduceAdd, Nat.reduceSub, Nat.reduceLT, Nat.reduceLeDiff, Nat.reducePow, true_or, or_true, or_false, false_or, beq_iff_eq, RV.t.injEq, RV.o.injEq, T.int.injEq, T.str.injEq, T.bl.injEq, Option.some.injEq, ge_iff_le, gt_iff_lt, exists_eq_left', exists_eq_left, List.any_cons, List.any_nil, List.contains_cons, List.contains_nil, exB, String.reduceBEq, String.reduceEq, beq_self_eq_true, bne_self_eq_false, Bool.not_eq_true, Bool.not_eq_false, Tabs.G, List.lookup_cons, List.lookup_nil]
      exact ⟨_, _, ns, h6, rfl, by rw [e2, range_length]; omega, e3⟩
theorem at_3 {a b c r : Int} (h0 : 0 ≤ r) (h1 : r < 3) : ∃ y, atI [T.int a, T.int b, T.int c] r = some (.int y) ∧ (y = a ∨ y = b ∨ y = c) := by
  rcases (show r = 0 ∨ r = 1 ∨ r = 2 by omega) with rfl | rfl | rfl
  · exact ⟨a, atI_0, .inl rfl⟩
  · exact ⟨b, atI_1, .inr (.inl rfl)⟩
  · exact ⟨c, atI_2, .inr (.inr rfl)⟩
theorem at_2s {a b : Str} {r : Int} (h0 : 0 ≤ r) (h1 : r < 2) : ∃ y, atI [T.str a, T.str b] r = some (.str y) ∧ (y = a ∨ y = b) := by
  rcases (show r = 0 ∨ r = 1 by omega) with rfl | rfl
  · exact ⟨a, atI_0, .inl rfl⟩
  · exact ⟨b, atI_1, .inr rfl⟩
/-- a card's stamps -/
def StOk (s : Stamp) : Prop := Tx 30 s.1 ∧ (s.2.2 = "box" ∨ s.2.2 = "sworn")
end K04

set_option maxRecDepth 100000
set_option maxHeartbeats 1000000
namespace K04
open PySem PV L2
def put (l : List Stamp) (p : Nat) (s : Stamp) : List Stamp := l.take p ++ s :: l.drop p
def out (l : List Stamp) (p : Nat) : List Stamp := l.take p ++ l.drop (p + 1)
/-- a place below n -/
def isP (n : Int) : T → Bool
  | .int i => decide (0 ≤ i ∧ i < n)
  | _ => false
def numT : T → Int
  | .int i => i
  | _ => 0
/-- no thing that a walk cannot tell -/
def noE : T → Prop
  | .exn _ => False
  | _ => True
theorem below_any {k : Nat} {S : Store} {x : T} {n : Int} (hx : noE x) : (C (k + 2) "is_below" [.t x, .t (.int n)] S).wp (fun v S' => v = .t (.bl (isP n x)) ∧ S' = S) nE := by
  refine wp_fn d_f_is_below rfl ?_
  simp -implicitDefEqProofs only [f_is_below, wp_ok, wp_exc, wp_fail, wp_bind, wp_liftE, wp_noX, wp_ite, wp_var, wp_cst, wp_glb, wp_op0, wp_op1, wp_op2, wp_op3, wp_and, wp_or, wp_not, wp_iteE, wp_chain, wp_call, wp_tup, wp_lst, wp_dct, wp_comp, wp_nil, wp_cons, wt_and, wt_or, wt_not, wt_op2, wt_chain, wt_var, wt_cst, wt_op1, wt_call, wi_one, wi_two, asB_b, ws_ex, ws_asg, ws_sset, ws_ret, ws_ret0, ws_ite, ws_for, ws_whl, ws_raise, ws_try, tryP_nx, tryP_ret, tryP_exc, ws_cont, ws_brk, wb_nil, wb_cons, seqF_nx, seqF_ret, seqF_brk, seqF_cont, seqF_exc, endP_nx, endP_ret, endP_exc, fin_tree, fin_app, fin_app0, at_app0, at_app, at_lt, set_app0, set_app, set_lt, take_app, take_self, at_set, vw_t, vw_o, tree_frz, tree_lst, tree_dic, fz_t, fz_o, fzs_nil, fzs_cons, nrm_t, nrm_o, turnF_nx, turnF_cont, turnF_brk, turnF_ret, turnF_exc, stands_nil, stands_cons, wat_t, wat_o, s0, s1, s2, s3, w1, w2, bindT, sets, trB, truth, pre2, pre3, mid3, isL, isCmp, putO, slc, inC, wipeE, seq?, atI_0, atI_1, atI_2, atI_m, ixN_0, ixN_1, scalT, T.flat, teq, eqT, eqD, below, T.ty, List.map_cons, List.map_nil, List.cons_append, List.nil_append, List.append_assoc, List.append_nil, List.length_cons, List.length_nil, List.length_append, List.length_set, List.length_map, List.getElem?_cons_zero, List.getElem?_cons_succ, List.set_cons_zero, List.set_cons_succ, List.set_set, List.replicate_succ, List.replicate_zero, Option.map_some, Option.map_none, if_true, if_false, ite_true, ite_false, if_false_right, Bool.false_eq_true, decide_eq_true_eq, Bool.and_eq_true, Bool.or_eq_true, Bool.true_or, Bool.false_or, Bool.or_false, Bool.true_and, Bool.and_true, Bool.and_false, Bool.false_and, Bool.not_true, Bool.not_false, Nat.add_zero, Nat.zero_add, true_and, and_true, eq_self, reduceCtorEq, and_self, Int.reduceNeg, Int.reduceEq, Int.reduceBEq, Int.reduceLT, Int.reduceLE, Int.reducePow, Int.reduceToNat, Int.reduceAdd, Int.reduceMul, Int.reduceMod, Int.reduceDiv, Int.reduceSub, Nat.reduceAdd, Nat.reduceSub, Nat.reduceLT, Nat.reduceLeDiff, Nat.reducePow, true_or, or_true, or_false, false_or, beq_iff_eq, RV.t.injEq, RV.o.injEq, T.int.injEq, T.str.injEq, T.bl.injEq, Option.some.injEq, ge_iff_le, gt_iff_lt, exists_eq_left', exists_eq_left, List.any_cons, List.any_nil, List.contains_cons, List.contains_nil, exB, String.reduceBEq, String.reduceEq, beq_self_eq_true, bne_self_eq_false, Bool.not_eq_true, Bool.not_eq_false, Tabs.G, List.lookup_cons, List.lookup_nil]
  have hw : (C (k + 1) "is_whole" [.t x] S).wp (fun v S' => v = .t (.bl (match x with | .int _ => true | _ => false)) ∧ S' = S) nE := by
    refine wp_fn d_f_is_whole rfl ?_
    cases x with
    | exn _ => exact hx.elim
    | _ => simp -implicitDefEqProofs only [f_is_whole, wp_ok, wp_exc, wp_fail, wp_bind, wp_liftE, wp_noX, wp_ite, wp_var, wp_cst, wp_glb, wp_op0, wp_op1, wp_op2, wp_op3, wp_and, wp_or, wp_not, wp_iteE, wp_chain, wp_call, wp_tup, wp_lst, wp_dct, wp_comp, wp_nil, wp_cons, wt_and, wt_or, wt_not, wt_op2, wt_chain, wt_var, wt_cst, wt_op1, wt_call, wi_one, wi_two, asB_b, ws_ex, ws_asg, ws_sset, ws_ret, ws_ret0, ws_ite, ws_for, ws_whl, ws_raise, ws_try, tryP_nx, tryP_ret, tryP_exc, ws_cont, ws_brk, wb_nil, wb_cons, seqF_nx, seqF_ret, seqF_brk, seqF_cont, seqF_exc, endP_nx, endP_ret, endP_exc, fin_tree, fin_app, fin_app0, at_app0, at_app, at_lt, set_app0, set_app, set_lt, take_app, take_self, at_set, vw_t, vw_o, tree_frz, tree_lst, tree_dic, fz_t, fz_o, fzs_nil, fzs_cons, nrm_t, nrm_o, turnF_nx, turnF_cont, turnF_brk, turnF_ret, turnF_exc, stands_nil, stands_cons, wat_t, wat_o, s0, s1, s2, s3, w1, w2, bindT, sets, trB, truth, pre2, pre3, mid3, isL, isCmp, putO, slc, inC, wipeE, seq?, atI_0, atI_1, atI_2, atI_m, ixN_0, ixN_1, scalT, T.flat, teq, eqT, eqD, below, T.ty, List.map_cons, List.map_nil, List.cons_append, List.nil_append, List.append_assoc, List.append_nil, List.length_cons, List.length_nil, List.length_append, List.length_set, List.length_map, List.getElem?_cons_zero, List.getElem?_cons_succ, List.set_cons_zero, List.set_cons_succ, List.set_set, List.replicate_succ, List.replicate_zero, Option.map_some, Option.map_none, if_true, if_false, ite_true, ite_false, if_false_right, Bool.false_eq_true, decide_eq_true_eq, Bool.and_eq_true, Bool.or_eq_true, Bool.true_or, Bool.false_or, Bool.or_false, Bool.true_and, Bool.and_true, Bool.and_false, Bool.false_and, Bool.not_true, Bool.not_false, Nat.add_zero, Nat.zero_add, true_and, and_true, eq_self, reduceCtorEq, and_self, Int.reduceNeg, Int.reduceEq, Int.reduceBEq, Int.reduceLT, Int.reduceLE, Int.reducePow, Int.reduceToNat, Int.reduceAdd, Int.reduceMul, Int.reduceMod, Int.reduceDiv, Int.reduceSub, Nat.reduceAdd, Nat.reduceSub, Nat.reduceLT, Nat.reduceLeDiff, Nat.reducePow, true_or, or_true, or_false, false_or, beq_iff_eq, RV.t.injEq, RV.o.injEq, T.int.injEq, T.str.injEq, T.bl.injEq, Option.some.injEq, ge_iff_le, gt_iff_lt, exists_eq_left', exists_eq_left, List.any_cons, List.any_nil, List.contains_cons, List.contains_nil, exB, String.reduceBEq, String.reduceEq, beq_self_eq_true, bne_self_eq_false, Bool.not_eq_true, Bool.not_eq_false, Tabs.G, List.lookup_cons, List.lookup_nil]
  refine wp_use hw fun v S' ⟨e1, e2⟩ => ?_
  subst e1 e2
  cases x with
  | exn _ => exact hx.elim
  | int i =>
    simp -implicitDefEqProofs only [isP, wp_ok, wp_exc, wp_fail, wp_bind, wp_liftE, wp_noX, wp_ite, wp_var, wp_cst, wp_glb, wp_op0, wp_op1, wp_op2, wp_op3, wp_and, wp_or, wp_not, wp_iteE, wp_chain, wp_call, wp_tup, wp_lst, wp_dct, wp_comp, wp_nil, wp_cons, wt_and, wt_or, wt_not, wt_op2, wt_chain, wt_var, wt_cst, wt_op1, wt_call, wi_one, wi_two, asB_b, ws_ex, ws_asg, ws_sset, ws_ret, ws_ret0, ws_ite, ws_for, ws_whl, ws_raise, ws_try, tryP_nx, tryP_ret, tryP_exc, ws_cont, ws_brk, wb_nil, wb_cons, seqF_nx, seqF_ret, seqF_brk, seqF_cont, seqF_exc, endP_nx, endP_ret, endP_exc, fin_tree, fin_app, fin_app0, at_app0, at_app, at_lt, set_app0, set_app, set_lt, take_app, take_self, at_set, vw_t, vw_o, tree_frz, tree_lst, tree_dic, fz_t, fz_o, fzs_nil, fzs_cons, nrm_t, nrm_o, turnF_nx, turnF_cont, turnF_brk, turnF_ret, turnF_exc, stands_nil, stands_cons, wat_t, wat_o, s0, s1, s2, s3, w1, w2, bindT, sets, trB, truth, pre2, pre3, mid3, isL, isCmp, putO, slc, inC, wipeE, seq?, atI_0, atI_1, atI_2, atI_m, ixN_0, ixN_1, scalT, T.flat, teq, eqT, eqD, below, T.ty, List.map_cons, List.map_nil, List.cons_append, List.nil_append, List.append_assoc, List.append_nil, List.length_cons, List.length_nil, List.length_append, List.length_set, List.length_map, List.getElem?_cons_zero, List.getElem?_cons_succ, List.set_cons_zero, List.set_cons_succ, List.set_set, List.replicate_succ, List.replicate_zero, Option.map_some, Option.map_none, if_true, if_false, ite_true, ite_false, if_false_right, Bool.false_eq_true, decide_eq_true_eq, Bool.and_eq_true, Bool.or_eq_true, Bool.true_or, Bool.false_or, Bool.or_false, Bool.true_and, Bool.and_true, Bool.and_false, Bool.false_and, Bool.not_true, Bool.not_false, Nat.add_zero, Nat.zero_add, true_and, and_true, eq_self, reduceCtorEq, and_self, Int.reduceNeg, Int.reduceEq, Int.reduceBEq, Int.reduceLT, Int.reduceLE, Int.reducePow, Int.reduceToNat, Int.reduceAdd, Int.reduceMul, Int.reduceMod, Int.reduceDiv, Int.reduceSub, Nat.reduceAdd, Nat.reduceSub, Nat.reduceLT, Nat.reduceLeDiff, Nat.reducePow, true_or, or_true, or_false, false_or, beq_iff_eq, RV.t.injEq, RV.o.injEq, T.int.injEq, T.str.injEq, T.bl.injEq, Option.some.injEq, ge_iff_le, gt_iff_lt, exists_eq_left', exists_eq_left, List.any_cons, List.any_nil, List.contains_cons, List.contains_nil, exB, String.reduceBEq, String.reduceEq, beq_self_eq_true, bne_self_eq_false, Bool.not_eq_true, Bool.not_eq_false, Tabs.G, List.lookup_cons, List.lookup_nil]
    by_cases h : 0 ≤ i <;> simp [h]
  | _ => simp -implicitDefEqProofs only [isP, wp_ok, wp_exc, wp_fail, wp_bind, wp_liftE, wp_noX, wp_ite, wp_var, wp_cst, wp_glb, wp_op0, wp_op1, wp_op2, wp_op3, wp_and, wp_or, wp_not, wp_iteE, wp_chain, wp_call, wp_tup, wp_lst, wp_dct, wp_comp, wp_nil, wp_cons, wt_and, wt_or, wt_not, wt_op2, wt_chain, wt_var, wt_cst, wt_op1, wt_call, wi_one, wi_two, asB_b, ws_ex, ws_asg, ws_sset, ws_ret, ws_ret0, ws_ite, ws_for, ws_whl, ws_raise, ws_try, tryP_nx, tryP_ret, tryP_exc, ws_cont, ws_brk, wb_nil, wb_cons, seqF_nx, seqF_ret, seqF_brk, seqF_cont, seqF_exc, endP_nx, endP_ret, endP_exc, fin_tree, fin_app, fin_app0, at_app0, at_app, at_lt, set_app0, set_app, set_lt, take_app, take_self, at_set, vw_t, vw_o, tree_frz, tree_lst, tree_dic, fz_t, fz_o, fzs_nil, fzs_cons, nrm_t, nrm_o, turnF_nx, turnF_cont, turnF_brk, turnF_ret, turnF_exc, stands_nil, stands_cons, wat_t, wat_o, s0, s1, s2, s3, w1, w2, bindT, sets, trB, truth, pre2, pre3, mid3, isL, isCmp, putO, slc, inC, wipeE, seq?, atI_0, atI_1, atI_2, atI_m, ixN_0, ixN_1, scalT, T.flat, teq, eqT, eqD, below, T.ty, List.map_cons, List.map_nil, List.cons_append, List.nil_append, List.append_assoc, List.append_nil, List.length_cons, List.length_nil, List.length_append, List.length_set, List.length_map, List.getElem?_cons_zero, List.getElem?_cons_succ, List.set_cons_zero, List.set_cons_succ, List.set_set, List.replicate_succ, List.replicate_zero, Option.map_some, Option.map_none, if_true, if_false, ite_true, ite_false, if_false_right, Bool.false_eq_true, decide_eq_true_eq, Bool.and_eq_true, Bool.or_eq_true, Bool.true_or, Bool.false_or, Bool.or_false, Bool.true_and, Bool.and_true, Bool.and_false, Bool.false_and, Bool.not_true, Bool.not_false, Nat.add_zero, Nat.zero_add, true_and, and_true, eq_self, reduceCtorEq, and_self, Int.reduceNeg, Int.reduceEq, Int.reduceBEq, Int.reduceLT, Int.reduceLE, Int.reducePow, Int.reduceToNat, Int.reduceAdd, Int.reduceMul, Int.reduceMod, Int.reduceDiv, Int.reduceSub, Nat.reduceAdd, Nat.reduceSub, Nat.reduceLT, Nat.reduceLeDiff, Nat.reducePow, true_or, or_true, or_false, false_or, beq_iff_eq, RV.t.injEq, RV.o.injEq, T.int.injEq, T.str.injEq, T.bl.injEq, Option.some.injEq, ge_iff_le, gt_iff_lt, exists_eq_left', exists_eq_left, List.any_cons, List.any_nil, List.contains_cons, List.contains_nil, exB, String.reduceBEq, String.reduceEq, beq_self_eq_true, bne_self_eq_false, Bool.not_eq_true, Bool.not_eq_false, Tabs.G, List.lookup_cons, List.lookup_nil]
theorem put_any {k : Nat} {S : Store} {l : List Stamp} {x : T} {s : Stamp} (hx : noE x) (hl : l.length ≤ 24) :
    (C (k + 3) "put_in" [.t (.tup (l.map stT)), .t x, .t (stT s)] S).wp (fun v S' => isP (l.length + 1) x = true ∧ l.length < 24 ∧ v = .t (.tup ((put l (numT x).toNat s).map stT)) ∧ S' = S)
      (fun e S' => S' = S ∧ e.cls = (if isP (l.length + 1) x = true then "Full" else "NoPlace") ∧ (isP (l.length + 1) x = true → 24 ≤ l.length)) := by
  have z : 100 ≤ sizeLine := Nat.le_of_lt (small1000 (by decide))
  refine wp_fn d_f_put_in rfl ?_
  simp -implicitDefEqProofs only [f_put_in, wp_ok, wp_exc, wp_fail, wp_bind, wp_liftE, wp_noX, wp_ite, wp_var, wp_cst, wp_glb, wp_op0, wp_op1, wp_op2, wp_op3, wp_and, wp_or, wp_not, wp_iteE, wp_chain, wp_call, wp_tup, wp_lst, wp_dct, wp_comp, wp_nil, wp_cons, wt_and, wt_or, wt_not, wt_op2, wt_chain, wt_var, wt_cst, wt_op1, wt_call, wi_one, wi_two, asB_b, ws_ex, ws_asg, ws_sset, ws_ret, ws_ret0, ws_ite, ws_for, ws_whl, ws_raise, ws_try, tryP_nx, tryP_ret, tryP_exc, ws_cont, ws_brk, wb_nil, wb_cons, seqF_nx, seqF_ret, seqF_brk, seqF_cont, seqF_exc, endP_nx, endP_ret, endP_exc, fin_tree, fin_app, fin_app0, at_app0, at_app, at_lt, set_app0, set_app, set_lt, take_app, take_self, at_set, vw_t, vw_o, tree_frz, tree_lst, tree_dic, fz_t, fz_o, fzs_nil, fzs_cons, nrm_t, nrm_o, turnF_nx, turnF_cont, turnF_brk, turnF_ret, turnF_exc, stands_nil, stands_cons, wat_t, wat_o, s0, s1, s2, s3, w1, w2, bindT, sets, trB, truth, pre2, pre3, mid3, isL, isCmp, putO, slc, inC, wipeE, seq?, atI_0, atI_1, atI_2, atI_m, ixN_0, ixN_1, scalT, T.flat, teq, eqT, eqD, below, T.ty, List.map_cons, List.map_nil, List.cons_append, List.nil_append, List.append_assoc, List.append_nil, List.length_cons, List.length_nil, List.length_append, List.length_set, List.length_map, List.getElem?_cons_zero, List.getElem?_cons_succ, List.set_cons_zero, List.set_cons_succ, List.set_set, List.replicate_succ, List.replicate_zero, Option.map_some, Option.map_none, if_true, if_false, ite_true, ite_false, if_false_right, Bool.false_eq_true, decide_eq_true_eq, Bool.and_eq_true, Bool.or_eq_true, Bool.true_or, Bool.false_or, Bool.or_false, Bool.true_and, Bool.and_true, Bool.and_false, Bool.false_and, Bool.not_true, Bool.not_false, Nat.add_zero, Nat.zero_add, true_and, and_true, eq_self, reduceCtorEq, and_self, Int.reduceNeg, Int.reduceEq, Int.reduceBEq, Int.reduceLT, Int.reduceLE, Int.reducePow, Int.reduceToNat, Int.reduceAdd, Int.reduceMul, Int.reduceMod, Int.reduceDiv, Int.reduceSub, Nat.reduceAdd, Nat.reduceSub, Nat.reduceLT, Nat.reduceLeDiff, Nat.reducePow, true_or, or_true, or_false, false_or, beq_iff_eq, RV.t.injEq, RV.o.injEq, T.int.injEq, T.str.injEq, T.bl.injEq, Option.some.injEq, ge_iff_le, gt_iff_lt, exists_eq_left', exists_eq_left, List.any_cons, List.any_nil, List.contains_cons, List.contains_nil, exB, String.reduceBEq, String.reduceEq, beq_self_eq_true, bne_self_eq_false, Bool.not_eq_true, Bool.not_eq_false, Tabs.G, List.lookup_cons, List.lookup_nil]
  refine wp_use (below_any hx) fun v S' ⟨e1, e2⟩ => ?_
  subst e1 e2
  cases hp : isP (l.length + 1) x
  · simp -implicitDefEqProofs only [wp_ok, wp_exc, wp_fail, wp_bind, wp_liftE, wp_noX, wp_ite, wp_var, wp_cst, wp_glb, wp_op0, wp_op1, wp_op2, wp_op3, wp_and, wp_or, wp_not, wp_iteE, wp_chain, wp_call, wp_tup, wp_lst, wp_dct, wp_comp, wp_nil, wp_cons, wt_and, wt_or, wt_not, wt_op2, wt_chain, wt_var, wt_cst, wt_op1, wt_call, wi_one, wi_two, asB_b, ws_ex, ws_asg, ws_sset, ws_ret, ws_ret0, ws_ite, ws_for, ws_whl, ws_raise, ws_try, tryP_nx, tryP_ret, tryP_exc, ws_cont, ws_brk, wb_nil, wb_cons, seqF_nx, seqF_ret, seqF_brk, seqF_cont, seqF_exc, endP_nx, endP_ret, endP_exc, fin_tree, fin_app, fin_app0, at_app0, at_app, at_lt, set_app0, set_app, set_lt, take_app, take_self, at_set, vw_t, vw_o, tree_frz, tree_lst, tree_dic, fz_t, fz_o, fzs_nil, fzs_cons, nrm_t, nrm_o, turnF_nx, turnF_cont, turnF_brk, turnF_ret, turnF_exc, stands_nil, stands_cons, wat_t, wat_o, s0, s1, s2, s3, w1, w2, bindT, sets, trB, truth, pre2, pre3, mid3, isL, isCmp, putO, slc, inC, wipeE, seq?, atI_0, atI_1, atI_2, atI_m, ixN_0, ixN_1, scalT, T.flat, teq, eqT, eqD, below, T.ty, List.map_cons, List.map_nil, List.cons_append, List.nil_append, List.append_assoc, List.append_nil, List.length_cons, List.length_nil, List.length_append, List.length_set, List.length_map, List.getElem?_cons_zero, List.getElem?_cons_succ, List.set_cons_zero, List.set_cons_succ, List.set_set, List.replicate_succ, List.replicate_zero, Option.map_some, Option.map_none, if_true, if_false, ite_true, ite_false, if_false_right, Bool.false_eq_true, decide_eq_true_eq, Bool.and_eq_true, Bool.or_eq_true, Bool.true_or, Bool.false_or, Bool.or_false, Bool.true_and, Bool.and_true, Bool.and_false, Bool.false_and, Bool.not_true, Bool.not_false, Nat.add_zero, Nat.zero_add, true_and, and_true, eq_self, reduceCtorEq, and_self, Int.reduceNeg, Int.reduceEq, Int.reduceBEq, Int.reduceLT, Int.reduceLE, Int.reducePow, Int.reduceToNat, Int.reduceAdd, Int.reduceMul, Int.reduceMod, Int.reduceDiv, Int.reduceSub, Nat.reduceAdd, Nat.reduceSub, Nat.reduceLT, Nat.reduceLeDiff, Nat.reducePow, true_or, or_true, or_false, false_or, beq_iff_eq, RV.t.injEq, RV.o.injEq, T.int.injEq, T.str.injEq, T.bl.injEq, Option.some.injEq, ge_iff_le, gt_iff_lt, exists_eq_left', exists_eq_left, List.any_cons, List.any_nil, List.contains_cons, List.contains_nil, exB, String.reduceBEq, String.reduceEq, beq_self_eq_true, bne_self_eq_false, Bool.not_eq_true, Bool.not_eq_false, Tabs.G, List.lookup_cons, List.lookup_nil]
    exact fun h => nomatch h
  · obtain ⟨i, rfl, h0, h1⟩ : ∃ i, x = .int i ∧ 0 ≤ i ∧ i < l.length + 1 := by
      cases x with
      | int i => exact ⟨i, rfl, by simpa [isP] using hp⟩
      | _ => cases hp
    obtain ⟨p, rfl⟩ : ∃ p : Nat, i = p := ⟨i.toNat, by omega⟩
    simp -implicitDefEqProofs only [glb_MOST_STAMPS, wp_ok, wp_exc, wp_fail, wp_bind, wp_liftE, wp_noX, wp_ite, wp_var, wp_cst, wp_glb, wp_op0, wp_op1, wp_op2, wp_op3, wp_and, wp_or, wp_not, wp_iteE, wp_chain, wp_call, wp_tup, wp_lst, wp_dct, wp_comp, wp_nil, wp_cons, wt_and, wt_or, wt_not, wt_op2, wt_chain, wt_var, wt_cst, wt_op1, wt_call, wi_one, wi_two, asB_b, ws_ex, ws_asg, ws_sset, ws_ret, ws_ret0, ws_ite, ws_for, ws_whl, ws_raise, ws_try, tryP_nx, tryP_ret, tryP_exc, ws_cont, ws_brk, wb_nil, wb_cons, seqF_nx, seqF_ret, seqF_brk, seqF_cont, seqF_exc, endP_nx, endP_ret, endP_exc, fin_tree, fin_app, fin_app0, at_app0, at_app, at_lt, set_app0, set_app, set_lt, take_app, take_self, at_set, vw_t, vw_o, tree_frz, tree_lst, tree_dic, fz_t, fz_o, fzs_nil, fzs_cons, nrm_t, nrm_o, turnF_nx, turnF_cont, turnF_brk, turnF_ret, turnF_exc, stands_nil, stands_cons, wat_t, wat_o, s0, s1, s2, s3, w1, w2, bindT, sets, trB, truth, pre2, pre3, mid3, isL, isCmp, putO, slc, inC, wipeE, seq?, atI_0, atI_1, atI_2, atI_m, ixN_0, ixN_1, scalT, T.flat, teq, eqT, eqD, below, T.ty, List.map_cons, List.map_nil, List.cons_append, List.nil_append, List.append_assoc, List.append_nil, List.length_cons, List.length_nil, List.length_append, List.length_set, List.length_map, List.getElem?_cons_zero, List.getElem?_cons_succ, List.set_cons_zero, List.set_cons_succ, List.set_set, List.replicate_succ, List.replicate_zero, Option.map_some, Option.map_none, if_true, if_false, ite_true, ite_false, if_false_right, Bool.false_eq_true, decide_eq_true_eq, Bool.and_eq_true, Bool.or_eq_true, Bool.true_or, Bool.false_or, Bool.or_false, Bool.true_and, Bool.and_true, Bool.and_false, Bool.false_and, Bool.not_true, Bool.not_false, Nat.add_zero, Nat.zero_add, true_and, and_true, eq_self, reduceCtorEq, and_self, Int.reduceNeg, Int.reduceEq, Int.reduceBEq, Int.reduceLT, Int.reduceLE, Int.reducePow, Int.reduceToNat, Int.reduceAdd, Int.reduceMul, Int.reduceMod, Int.reduceDiv, Int.reduceSub, Nat.reduceAdd, Nat.reduceSub, Nat.reduceLT, Nat.reduceLeDiff, Nat.reducePow, true_or, or_true, or_false, false_or, beq_iff_eq, RV.t.injEq, RV.o.injEq, T.int.injEq, T.str.injEq, T.bl.injEq, Option.some.injEq, ge_iff_le, gt_iff_lt, exists_eq_left', exists_eq_left, List.any_cons, List.any_nil, List.contains_cons, List.contains_nil, exB, String.reduceBEq, String.reduceEq, beq_self_eq_true, bne_self_eq_false, Bool.not_eq_true, Bool.not_eq_false, Tabs.G, List.lookup_cons, List.lookup_nil]
    have c1 : cutT (l.map stT) none (some (p : Int)) = (l.take p).map stT := by rw [cut_take (by omega), Int.toNat_natCast, List.map_take]
    have c2 : cutT (l.map stT) (some (p : Int)) none = (l.drop p).map stT := by rw [cut_from (by omega) (by simp; omega), Int.toNat_natCast, List.map_drop]
    by_cases h2 : 24 ≤ (l.length : Int)
    · simp -implicitDefEqProofs only [h2, wp_ok, wp_exc, wp_fail, wp_bind, wp_liftE, wp_noX, wp_ite, wp_var, wp_cst, wp_glb, wp_op0, wp_op1, wp_op2, wp_op3, wp_and, wp_or, wp_not, wp_iteE, wp_chain, wp_call, wp_tup, wp_lst, wp_dct, wp_comp, wp_nil, wp_cons, wt_and, wt_or, wt_not, wt_op2, wt_chain, wt_var, wt_cst, wt_op1, wt_call, wi_one, wi_two, asB_b, ws_ex, ws_asg, ws_sset, ws_ret, ws_ret0, ws_ite, ws_for, ws_whl, ws_raise, ws_try, tryP_nx, tryP_ret, tryP_exc, ws_cont, ws_brk, wb_nil, wb_cons, seqF_nx, seqF_ret, seqF_brk, seqF_cont, seqF_exc, endP_nx, endP_ret, endP_exc, fin_tree, fin_app, fin_app0, at_app0, at_app, at_lt, set_app0, set_app, set_lt, take_app, take_self, at_set, vw_t, vw_o, tree_frz, tree_lst, tree_dic, fz_t, fz_o, fzs_nil, fzs_cons, nrm_t, nrm_o, turnF_nx, turnF_cont, turnF_brk, turnF_ret, turnF_exc, stands_nil, stands_cons, wat_t, wat_o, s0, s1, s2, s3, w1, w2, bindT, sets, trB, truth, pre2, pre3, mid3, isL, isCmp, putO, slc, inC, wipeE, seq?, atI_0, atI_1, atI_2, atI_m, ixN_0, ixN_1, scalT, T.flat, teq, eqT, eqD, below, T.ty, List.map_cons, List.map_nil, List.cons_append, List.nil_append, List.append_assoc, List.append_nil, List.length_cons, List.length_nil, List.length_append, List.length_set, List.length_map, List.getElem?_cons_zero, List.getElem?_cons_succ, List.set_cons_zero, List.set_cons_succ, List.set_set, List.replicate_succ, List.replicate_zero, Option.map_some, Option.map_none, if_true, if_false, ite_true, ite_false, if_false_right, Bool.false_eq_true, decide_eq_true_eq, Bool.and_eq_true, Bool.or_eq_true, Bool.true_or, Bool.false_or, Bool.or_false, Bool.true_and, Bool.and_true, Bool.and_false, Bool.false_and, Bool.not_true, Bool.not_false, Nat.add_zero, Nat.zero_add, true_and, and_true, eq_self, reduceCtorEq, and_self, Int.reduceNeg, Int.reduceEq, Int.reduceBEq, Int.reduceLT, Int.reduceLE, Int.reducePow, Int.reduceToNat, Int.reduceAdd, Int.reduceMul, Int.reduceMod, Int.reduceDiv, Int.reduceSub, Nat.reduceAdd, Nat.reduceSub, Nat.reduceLT, Nat.reduceLeDiff, Nat.reducePow, true_or, or_true, or_false, false_or, beq_iff_eq, RV.t.injEq, RV.o.injEq, T.int.injEq, T.str.injEq, T.bl.injEq, Option.some.injEq, ge_iff_le, gt_iff_lt, exists_eq_left', exists_eq_left, List.any_cons, List.any_nil, List.contains_cons, List.contains_nil, exB, String.reduceBEq, String.reduceEq, beq_self_eq_true, bne_self_eq_false, Bool.not_eq_true, Bool.not_eq_false, Tabs.G, List.lookup_cons, List.lookup_nil]
      omega
    · simp -implicitDefEqProofs only [h2, c1, c2, List.length_take, List.length_drop, wp_ok, wp_exc, wp_fail, wp_bind, wp_liftE, wp_noX, wp_ite, wp_var, wp_cst, wp_glb, wp_op0, wp_op1, wp_op2, wp_op3, wp_and, wp_or, wp_not, wp_iteE, wp_chain, wp_call, wp_tup, wp_lst, wp_dct, wp_comp, wp_nil, wp_cons, wt_and, wt_or, wt_not, wt_op2, wt_chain, wt_var, wt_cst, wt_op1, wt_call, wi_one, wi_two, asB_b, ws_ex, ws_asg, ws_sset, ws_ret, ws_ret0, ws_ite, ws_for, ws_whl, ws_raise, ws_try, tryP_nx, tryP_ret, tryP_exc, ws_cont, ws_brk, wb_nil, wb_cons, seqF_nx, seqF_ret, seqF_brk, seqF_cont, seqF_exc, endP_nx, endP_ret, endP_exc, fin_tree, fin_app, fin_app0, at_app0, at_app, at_lt, set_app0, set_app, set_lt, take_app, take_self, at_set, vw_t, vw_o, tree_frz, tree_lst, tree_dic, fz_t, fz_o, fzs_nil, fzs_cons, nrm_t, nrm_o, turnF_nx, turnF_cont, turnF_brk, turnF_ret, turnF_exc, stands_nil, stands_cons, wat_t, wat_o, s0, s1, s2, s3, w1, w2, bindT, sets, trB, truth, pre2, pre3, mid3, isL, isCmp, putO, slc, inC, wipeE, seq?, atI_0, atI_1, atI_2, atI_m, ixN_0, ixN_1, scalT, T.flat, teq, eqT, eqD, below, T.ty, List.map_cons, List.map_nil, List.cons_append, List.nil_append, List.append_assoc, List.append_nil, List.length_cons, List.length_nil, List.length_append, List.length_set, List.length_map, List.getElem?_cons_zero, List.getElem?_cons_succ, List.set_cons_zero, List.set_cons_succ, List.set_set, List.replicate_succ, List.replicate_zero, Option.map_some, Option.map_none, if_true, if_false, ite_true, ite_false, if_false_right, Bool.false_eq_true, decide_eq_true_eq, Bool.and_eq_true, Bool.or_eq_true, Bool.true_or, Bool.false_or, Bool.or_false, Bool.true_and, Bool.and_true, Bool.and_false, Bool.false_and, Bool.not_true, Bool.not_false, Nat.add_zero, Nat.zero_add, true_and, and_true, eq_self, reduceCtorEq, and_self, Int.reduceNeg, Int.reduceEq, Int.reduceBEq, Int.reduceLT, Int.reduceLE, Int.reducePow, Int.reduceToNat, Int.reduceAdd, Int.reduceMul, Int.reduceMod, Int.reduceDiv, Int.reduceSub, Nat.reduceAdd, Nat.reduceSub, Nat.reduceLT, Nat.reduceLeDiff, Nat.reducePow, true_or, or_true, or_false, false_or, beq_iff_eq, RV.t.injEq, RV.o.injEq, T.int.injEq, T.str.injEq, T.bl.injEq, Option.some.injEq, ge_iff_le, gt_iff_lt, exists_eq_left', exists_eq_left, List.any_cons, List.any_nil, List.contains_cons, List.contains_nil, exB, String.reduceBEq, String.reduceEq, beq_self_eq_true, bne_self_eq_false, Bool.not_eq_true, Bool.not_eq_false, Tabs.G, List.lookup_cons, List.lookup_nil]
      exact ⟨by omega, by omega, by omega, by omega, by unfold put numT; rw [Int.toNat_natCast, List.map_append, List.map_cons]⟩
theorem out_any {k : Nat} {S : Store} {l : List Stamp} {x : T} (hx : noE x) (hl : l.length ≤ 24) :
    (C (k + 3) "take_out" [.t (.tup (l.map stT)), .t x] S).wp (fun v S' => isP l.length x = true ∧ v = .t (.tup ((out l (numT x).toNat).map stT)) ∧ S' = S) (fun e S' => S' = S ∧ e.cls = "NoPlace" ∧ isP l.length x = false) := by
  have z : 100 ≤ sizeLine := Nat.le_of_lt (small1000 (by decide))
  refine wp_fn d_f_take_out rfl ?_
  simp -implicitDefEqProofs only [f_take_out, wp_ok, wp_exc, wp_fail, wp_bind, wp_liftE, wp_noX, wp_ite, wp_var, wp_cst, wp_glb, wp_op0, wp_op1, wp_op2, wp_op3, wp_and, wp_or, wp_not, wp_iteE, wp_chain, wp_call, wp_tup, wp_lst, wp_dct, wp_comp, wp_nil, wp_cons, wt_and, wt_or, wt_not, wt_op2, wt_chain, wt_var, wt_cst, wt_op1, wt_call, wi_one, wi_two, asB_b, ws_ex, ws_asg, ws_sset, ws_ret, ws_ret0, ws_ite, ws_for, ws_whl, ws_raise, ws_try, tryP_nx, tryP_ret, tryP_exc, ws_cont, ws_brk, wb_nil, wb_cons, seqF_nx, seqF_ret, seqF_brk, seqF_cont, seqF_exc, endP_nx, endP_ret, endP_exc, fin_tree, fin_app, fin_app0, at_app0, at_app, at_lt, set_app0, set_app, set_lt, take_app, take_self, at_set, vw_t, vw_o, tree_frz, tree_lst, tree_dic, fz_t, fz_o, fzs_nil, fzs_cons, nrm_t, nrm_o, turnF_nx, turnF_cont, turnF_brk, turnF_ret, turnF_exc, stands_nil, stands_cons, wat_t, wat_o, s0, s1, s2, s3, w1, w2, bindT, sets, trB, truth, pre2, pre3, mid3, isL, isCmp, putO, slc, inC, wipeE, seq?, atI_0, atI_1, atI_2, atI_m, ixN_0, ixN_1, scalT, T.flat, teq, eqT, eqD, below, T.ty, List.map_cons, List.map_nil, List.cons_append, List.nil_append, List.append_assoc, List.append_nil, List.length_cons, List.length_nil, List.length_append, List.length_set, List.length_map, List.getElem?_cons_zero, List.getElem?_cons_succ, List.set_cons_zero, List.set_cons_succ, List.set_set, List.replicate_succ, List.replicate_zero, Option.map_some, Option.map_none, if_true, if_false, ite_true, ite_false, if_false_right, Bool.false_eq_true, decide_eq_true_eq, Bool.and_eq_true, Bool.or_eq_true, Bool.true_or, Bool.false_or, Bool.or_false, Bool.true_and, Bool.and_true, Bool.and_false, Bool.false_and, Bool.not_true, Bool.not_false, Nat.add_zero, Nat.zero_add, true_and, and_true, eq_self, reduceCtorEq, and_self, Int.reduceNeg, Int.reduceEq, Int.reduceBEq, Int.reduceLT, Int.reduceLE, Int.reducePow, Int.reduceToNat, Int.reduceAdd, Int.reduceMul, Int.reduceMod, Int.reduceDiv, Int.reduceSub, Nat.reduceAdd, Nat.reduceSub, Nat.reduceLT, Nat.reduceLeDiff, Nat.reducePow, true_or, or_true, or_false, false_or, beq_iff_eq, RV.t.injEq, RV.o.injEq, T.int.injEq, T.str.injEq, T.bl.injEq, Option.some.injEq, ge_iff_le, gt_iff_lt, exists_eq_left', exists_eq_left, List.any_cons, List.any_nil, List.contains_cons, List.contains_nil, exB, String.reduceBEq, String.reduceEq, beq_self_eq_true, bne_self_eq_false, Bool.not_eq_true, Bool.not_eq_false, Tabs.G, List.lookup_cons, List.lookup_nil]
  refine wp_use (below_any hx) fun v S' ⟨e1, e2⟩ => ?_
  subst e1 e2
  cases hp : isP l.length x
  · simp -implicitDefEqProofs only [wp_ok, wp_exc, wp_fail, wp_bind, wp_liftE, wp_noX, wp_ite, wp_var, wp_cst, wp_glb, wp_op0, wp_op1, wp_op2, wp_op3, wp_and, wp_or, wp_not, wp_iteE, wp_chain, wp_call, wp_tup, wp_lst, wp_dct, wp_comp, wp_nil, wp_cons, wt_and, wt_or, wt_not, wt_op2, wt_chain, wt_var, wt_cst, wt_op1, wt_call, wi_one, wi_two, asB_b, ws_ex, ws_asg, ws_sset, ws_ret, ws_ret0, ws_ite, ws_for, ws_whl, ws_raise, ws_try, tryP_nx, tryP_ret, tryP_exc, ws_cont, ws_brk, wb_nil, wb_cons, seqF_nx, seqF_ret, seqF_brk, seqF_cont, seqF_exc, endP_nx, endP_ret, endP_exc, fin_tree, fin_app, fin_app0, at_app0, at_app, at_lt, set_app0, set_app, set_lt, take_app, take_self, at_set, vw_t, vw_o, tree_frz, tree_lst, tree_dic, fz_t, fz_o, fzs_nil, fzs_cons, nrm_t, nrm_o, turnF_nx, turnF_cont, turnF_brk, turnF_ret, turnF_exc, stands_nil, stands_cons, wat_t, wat_o, s0, s1, s2, s3, w1, w2, bindT, sets, trB, truth, pre2, pre3, mid3, isL, isCmp, putO, slc, inC, wipeE, seq?, atI_0, atI_1, atI_2, atI_m, ixN_0, ixN_1, scalT, T.flat, teq, eqT, eqD, below, T.ty, List.map_cons, List.map_nil, List.cons_append, List.nil_append, List.append_assoc, List.append_nil, List.length_cons, List.length_nil, List.length_append, List.length_set, List.length_map, List.getElem?_cons_zero, List.getElem?_cons_succ, List.set_cons_zero, List.set_cons_succ, List.set_set, List.replicate_succ, List.replicate_zero, Option.map_some, Option.map_none, if_true, if_false, ite_true, ite_false, if_false_right, Bool.false_eq_true, decide_eq_true_eq, Bool.and_eq_true, Bool.or_eq_true, Bool.true_or, Bool.false_or, Bool.or_false, Bool.true_and, Bool.and_true, Bool.and_false, Bool.false_and, Bool.not_true, Bool.not_false, Nat.add_zero, Nat.zero_add, true_and, and_true, eq_self, reduceCtorEq, and_self, Int.reduceNeg, Int.reduceEq, Int.reduceBEq, Int.reduceLT, Int.reduceLE, Int.reducePow, Int.reduceToNat, Int.reduceAdd, Int.reduceMul, Int.reduceMod, Int.reduceDiv, Int.reduceSub, Nat.reduceAdd, Nat.reduceSub, Nat.reduceLT, Nat.reduceLeDiff, Nat.reducePow, true_or, or_true, or_false, false_or, beq_iff_eq, RV.t.injEq, RV.o.injEq, T.int.injEq, T.str.injEq, T.bl.injEq, Option.some.injEq, ge_iff_le, gt_iff_lt, exists_eq_left', exists_eq_left, List.any_cons, List.any_nil, List.contains_cons, List.contains_nil, exB, String.reduceBEq, String.reduceEq, beq_self_eq_true, bne_self_eq_false, Bool.not_eq_true, Bool.not_eq_false, Tabs.G, List.lookup_cons, List.lookup_nil]
  · obtain ⟨i, rfl, h0, h1⟩ : ∃ i, x = .int i ∧ 0 ≤ i ∧ i < l.length := by
      cases x with
      | int i => exact ⟨i, rfl, by simpa [isP] using hp⟩
      | _ => cases hp
    obtain ⟨p, rfl⟩ : ∃ p : Nat, i = p := ⟨i.toNat, by omega⟩
    have c1 : cutT (l.map stT) none (some (p : Int)) = (l.take p).map stT := by rw [cut_take (by omega), Int.toNat_natCast, List.map_take]
    have c2 : cutT (l.map stT) (some ((p : Int) + 1)) none = (l.drop (p + 1)).map stT := by rw [cut_from (by omega) (by simp; omega), List.map_drop, show ((p : Int) + 1).toNat = p + 1 by omega]
    simp -implicitDefEqProofs only [c1, c2, List.length_take, List.length_drop, wp_ok, wp_exc, wp_fail, wp_bind, wp_liftE, wp_noX, wp_ite, wp_var, wp_cst, wp_glb, wp_op0, wp_op1, wp_op2, wp_op3, wp_and, wp_or, wp_not, wp_iteE, wp_chain, wp_call, wp_tup, wp_lst, wp_dct, wp_comp, wp_nil, wp_cons, wt_and, wt_or, wt_not, wt_op2, wt_chain, wt_var, wt_cst, wt_op1, wt_call, wi_one, wi_two, asB_b, ws_ex, ws_asg, ws_sset, ws_ret, ws_ret0, ws_ite, ws_for, ws_whl, ws_raise, ws_try, tryP_nx, tryP_ret, tryP_exc, ws_cont, ws_brk, wb_nil, wb_cons, seqF_nx, seqF_ret, seqF_brk, seqF_cont, seqF_exc, endP_nx, endP_ret, endP_exc, fin_tree, fin_app, fin_app0, at_app0, at_app, at_lt, set_app0, set_app, set_lt, take_app, take_self, at_set, vw_t, vw_o, tree_frz, tree_lst, tree_dic, fz_t, fz_o, fzs_nil, fzs_cons, nrm_t, nrm_o, turnF_nx, turnF_cont, turnF_brk, turnF_ret, turnF_exc, stands_nil, stands_cons, wat_t, wat_o, s0, s1, s2, s3, w1, w2, bindT, sets, trB, truth, pre2, pre3, mid3, isL, isCmp, putO, slc, inC, wipeE, seq?, atI_0, atI_1, atI_2, atI_m, ixN_0, ixN_1, scalT, T.flat, teq, eqT, eqD, below, T.ty, List.map_cons, List.map_nil, List.cons_append, List.nil_append, List.append_assoc, List.append_nil, List.length_cons, List.length_nil, List.length_append, List.length_set, List.length_map, List.getElem?_cons_zero, List.getElem?_cons_succ, List.set_cons_zero, List.set_cons_succ, List.set_set, List.replicate_succ, List.replicate_zero, Option.map_some, Option.map_none, if_true, if_false, ite_true, ite_false, if_false_right, Bool.false_eq_true, decide_eq_true_eq, Bool.and_eq_true, Bool.or_eq_true, Bool.true_or, Bool.false_or, Bool.or_false, Bool.true_and, Bool.and_true, Bool.and_false, Bool.false_and, Bool.not_true, Bool.not_false, Nat.add_zero, Nat.zero_add, true_and, and_true, eq_self, reduceCtorEq, and_self, Int.reduceNeg, Int.reduceEq, Int.reduceBEq, Int.reduceLT, Int.reduceLE, Int.reducePow, Int.reduceToNat, Int.reduceAdd, Int.reduceMul, Int.reduceMod, Int.reduceDiv, Int.reduceSub, Nat.reduceAdd, Nat.reduceSub, Nat.reduceLT, Nat.reduceLeDiff, Nat.reducePow, true_or, or_true, or_false, false_or, beq_iff_eq, RV.t.injEq, RV.o.injEq, T.int.injEq, T.str.injEq, T.bl.injEq, Option.some.injEq, ge_iff_le, gt_iff_lt, exists_eq_left', exists_eq_left, List.any_cons, List.any_nil, List.contains_cons, List.contains_nil, exB, String.reduceBEq, String.reduceEq, beq_self_eq_true, bne_self_eq_false, Bool.not_eq_true, Bool.not_eq_false, Tabs.G, List.lookup_cons, List.lookup_nil]
    exact ⟨by omega, by unfold out numT; rw [Int.toNat_natCast, List.map_append]⟩
/-- which word stands for a class -/
def wordOf (c : String) : Str := if c = "NoPlace" then Str.ofString "place" else Str.ofString "full"
def held : T → Option T
  | .tup [.bl true, y] => some y
  | _ => none
theorem word_ok {k : Nat} {S : Store} {c : String} (hc : c = "NoPlace" ∨ c = "Full") : (C (k + 1) "_law_word_of" [.t (.exn c)] S).wp (fun v S' => v = .t (.str (wordOf c)) ∧ S' = S) nE := by
  have z2 : 2 ≤ sizeLine := zle (by decide)
  refine wp_fn d_g_law_word_of rfl ?_
  rcases hc with rfl | rfl
  · simp -implicitDefEqProofs only [g_law_word_of, exB, z2, wp_ok, wp_exc, wp_fail, wp_bind, wp_liftE, wp_noX, wp_ite, wp_var, wp_cst, wp_glb, wp_op0, wp_op1, wp_op2, wp_op3, wp_and, wp_or, wp_not, wp_iteE, wp_chain, wp_call, wp_tup, wp_lst, wp_dct, wp_comp, wp_nil, wp_cons, wt_and, wt_or, wt_not, wt_op2, wt_chain, wt_var, wt_cst, wt_op1, wt_call, wi_one, wi_two, asB_b, ws_ex, ws_asg, ws_sset, ws_ret, ws_ret0, ws_ite, ws_for, ws_whl, ws_raise, ws_try, tryP_nx, tryP_ret, tryP_exc, ws_cont, ws_brk, wb_nil, wb_cons, seqF_nx, seqF_ret, seqF_brk, seqF_cont, seqF_exc, endP_nx, endP_ret, endP_exc, fin_tree, fin_app, fin_app0, at_app0, at_app, at_lt, set_app0, set_app, set_lt, take_app, take_self, at_set, vw_t, vw_o, tree_frz, tree_lst, tree_dic, fz_t, fz_o, fzs_nil, fzs_cons, nrm_t, nrm_o, turnF_nx, turnF_cont, turnF_brk, turnF_ret, turnF_exc, stands_nil, stands_cons, wat_t, wat_o, s0, s1, s2, s3, w1, w2, bindT, sets, trB, truth, pre2, pre3, mid3, isL, isCmp, putO, slc, inC, wipeE, seq?, atI_0, atI_1, atI_2, atI_m, ixN_0, ixN_1, scalT, T.flat, teq, eqT, eqD, below, T.ty, List.map_cons, List.map_nil, List.cons_append, List.nil_append, List.append_assoc, List.append_nil, List.length_cons, List.length_nil, List.length_append, List.length_set, List.length_map, List.getElem?_cons_zero, List.getElem?_cons_succ, List.set_cons_zero, List.set_cons_succ, List.set_set, List.replicate_succ, List.replicate_zero, Option.map_some, Option.map_none, if_true, if_false, ite_true, ite_false, if_false_right, Bool.false_eq_true, decide_eq_true_eq, Bool.and_eq_true, Bool.or_eq_true, Bool.true_or, Bool.false_or, Bool.or_false, Bool.true_and, Bool.and_true, Bool.and_false, Bool.false_and, Bool.not_true, Bool.not_false, Nat.add_zero, Nat.zero_add, true_and, and_true, eq_self, reduceCtorEq, and_self, Int.reduceNeg, Int.reduceEq, Int.reduceBEq, Int.reduceLT, Int.reduceLE, Int.reducePow, Int.reduceToNat, Int.reduceAdd, Int.reduceMul, Int.reduceMod, Int.reduceDiv, Int.reduceSub, Nat.reduceAdd, Nat.reduceSub, Nat.reduceLT, Nat.reduceLeDiff, Nat.reducePow, true_or, or_true, or_false, false_or, beq_iff_eq, RV.t.injEq, RV.o.injEq, T.int.injEq, T.str.injEq, T.bl.injEq, Option.some.injEq, ge_iff_le, gt_iff_lt, exists_eq_left', exists_eq_left, List.any_cons, List.any_nil, List.contains_cons, List.contains_nil, exB, String.reduceBEq, String.reduceEq, beq_self_eq_true, bne_self_eq_false, Bool.not_eq_true, Bool.not_eq_false, Tabs.G, List.lookup_cons, List.lookup_nil]
    refine wp_lcL_pure' (S ++ [.lst [T.tup [T.bl true, T.str (Str.ofString "place")], T.tup [T.bl false, T.str (Str.ofString "full")]]]) held (by simp) (by simp) (fun acc => by simp -implicitDefEqProofs only [wp_ok, wp_exc, wp_fail, wp_bind, wp_liftE, wp_noX, wp_ite, wp_var, wp_cst, wp_glb, wp_op0, wp_op1, wp_op2, wp_op3, wp_and, wp_or, wp_not, wp_iteE, wp_chain, wp_call, wp_tup, wp_lst, wp_dct, wp_comp, wp_nil, wp_cons, wt_and, wt_or, wt_not, wt_op2, wt_chain, wt_var, wt_cst, wt_op1, wt_call, wi_one, wi_two, asB_b, ws_ex, ws_asg, ws_sset, ws_ret, ws_ret0, ws_ite, ws_for, ws_whl, ws_raise, ws_try, tryP_nx, tryP_ret, tryP_exc, ws_cont, ws_brk, wb_nil, wb_cons, seqF_nx, seqF_ret, seqF_brk, seqF_cont, seqF_exc, endP_nx, endP_ret, endP_exc, fin_tree, fin_app, fin_app0, at_app0, at_app, at_lt, set_app0, set_app, set_lt, take_app, take_self, at_set, vw_t, vw_o, tree_frz, tree_lst, tree_dic, fz_t, fz_o, fzs_nil, fzs_cons, nrm_t, nrm_o, turnF_nx, turnF_cont, turnF_brk, turnF_ret, turnF_exc, stands_nil, stands_cons, wat_t, wat_o, s0, s1, s2, s3, w1, w2, bindT, sets, trB, truth, pre2, pre3, mid3, isL, isCmp, putO, slc, inC, wipeE, seq?, atI_0, atI_1, atI_2, atI_m, ixN_0, ixN_1, scalT, T.flat, teq, eqT, eqD, below, T.ty, List.map_cons, List.map_nil, List.cons_append, List.nil_append, List.append_assoc, List.append_nil, List.length_cons, List.length_nil, List.length_append, List.length_set, List.length_map, List.getElem?_cons_zero, List.getElem?_cons_succ, List.set_cons_zero, List.set_cons_succ, List.set_set, List.replicate_succ, List.replicate_zero, Option.map_some, Option.map_none, if_true, if_false, ite_true, ite_false, if_false_right, Bool.false_eq_true, decide_eq_true_eq, Bool.and_eq_true, Bool.or_eq_true, Bool.true_or, Bool.false_or, Bool.or_false, Bool.true_and, Bool.and_true, Bool.and_false, Bool.false_and, Bool.not_true, Bool.not_false, Nat.add_zero, Nat.zero_add, true_and, and_true, eq_self, reduceCtorEq, and_self, Int.reduceNeg, Int.reduceEq, Int.reduceBEq, Int.reduceLT, Int.reduceLE, Int.reducePow, Int.reduceToNat, Int.reduceAdd, Int.reduceMul, Int.reduceMod, Int.reduceDiv, Int.reduceSub, Nat.reduceAdd, Nat.reduceSub, Nat.reduceLT, Nat.reduceLeDiff, Nat.reducePow, true_or, or_true, or_false, false_or, beq_iff_eq, RV.t.injEq, RV.o.injEq, T.int.injEq, T.str.injEq, T.bl.injEq, Option.some.injEq, ge_iff_le, gt_iff_lt, exists_eq_left', exists_eq_left, List.any_cons, List.any_nil, List.contains_cons, List.contains_nil, exB, String.reduceBEq, String.reduceEq, beq_self_eq_true, bne_self_eq_false, Bool.not_eq_true, Bool.not_eq_false, Tabs.G, List.lookup_cons, List.lookup_nil]) (by simp -implicitDefEqProofs only [z2, wp_ok, wp_exc, wp_fail, wp_bind, wp_liftE, wp_noX, wp_ite, wp_var, wp_cst, wp_glb, wp_op0, wp_op1, wp_op2, wp_op3, wp_and, wp_or, wp_not, wp_iteE, wp_chain, wp_call, wp_tup, wp_lst, wp_dct, wp_comp, wp_nil, wp_cons, wt_and, wt_or, wt_not, wt_op2, wt_chain, wt_var, wt_cst, wt_op1, wt_call, wi_one, wi_two, asB_b, ws_ex, ws_asg, ws_sset, ws_ret, ws_ret0, ws_ite, ws_for, ws_whl, ws_raise, ws_try, tryP_nx, tryP_ret, tryP_exc, ws_cont, ws_brk, wb_nil, wb_cons, seqF_nx, seqF_ret, seqF_brk, seqF_cont, seqF_exc, endP_nx, endP_ret, endP_exc, fin_tree, fin_app, fin_app0, at_app0, at_app, at_lt, set_app0, set_app, set_lt, take_app, take_self, at_set, vw_t, vw_o, tree_frz, tree_lst, tree_dic, fz_t, fz_o, fzs_nil, fzs_cons, nrm_t, nrm_o, turnF_nx, turnF_cont, turnF_brk, turnF_ret, turnF_exc, stands_nil, stands_cons, wat_t, wat_o, s0, s1, s2, s3, w1, w2, bindT, sets, trB, truth, pre2, pre3, mid3, isL, isCmp, putO, slc, inC, wipeE, seq?, atI_0, atI_1, atI_2, atI_m, ixN_0, ixN_1, scalT, T.flat, teq, eqT, eqD, below, T.ty, List.map_cons, List.map_nil, List.cons_append, List.nil_append, List.append_assoc, List.append_nil, List.length_cons, List.length_nil, List.length_append, List.length_set, List.length_map, List.getElem?_cons_zero, List.getElem?_cons_succ, List.set_cons_zero, List.set_cons_succ, List.set_set, List.replicate_succ, List.replicate_zero, Option.map_some, Option.map_none, if_true, if_false, ite_true, ite_false, if_false_right, Bool.false_eq_true, decide_eq_true_eq, Bool.and_eq_true, Bool.or_eq_true, Bool.true_or, Bool.false_or, Bool.or_false, Bool.true_and, Bool.and_true, Bool.and_false, Bool.false_and, Bool.not_true, Bool.not_false, Nat.add_zero, Nat.zero_add, true_and, and_true, eq_self, reduceCtorEq, and_self, Int.reduceNeg, Int.reduceEq, Int.reduceBEq, Int.reduceLT, Int.reduceLE, Int.reducePow, Int.reduceToNat, Int.reduceAdd, Int.reduceMul, Int.reduceMod, Int.reduceDiv, Int.reduceSub, Nat.reduceAdd, Nat.reduceSub, Nat.reduceLT, Nat.reduceLeDiff, Nat.reducePow, true_or, or_true, or_false, false_or, beq_iff_eq, RV.t.injEq, RV.o.injEq, T.int.injEq, T.str.injEq, T.bl.injEq, Option.some.injEq, ge_iff_le, gt_iff_lt, exists_eq_left', exists_eq_left, List.any_cons, List.any_nil, List.contains_cons, List.contains_nil, exB, String.reduceBEq, String.reduceEq, beq_self_eq_true, bne_self_eq_false, Bool.not_eq_true, Bool.not_eq_false, Tabs.G, List.lookup_cons, List.lookup_nil]) (fun x hx acc => ?_) ?_
    · simp -implicitDefEqProofs only [List.mem_cons, List.not_mem_nil, or_false] at hx
      rcases hx with rfl | rfl
      · simp -implicitDefEqProofs only [wp_stepC, held, wp_ok, wp_exc, wp_fail, wp_bind, wp_liftE, wp_noX, wp_ite, wp_var, wp_cst, wp_glb, wp_op0, wp_op1, wp_op2, wp_op3, wp_and, wp_or, wp_not, wp_iteE, wp_chain, wp_call, wp_tup, wp_lst, wp_dct, wp_comp, wp_nil, wp_cons, wt_and, wt_or, wt_not, wt_op2, wt_chain, wt_var, wt_cst, wt_op1, wt_call, wi_one, wi_two, asB_b, ws_ex, ws_asg, ws_sset, ws_ret, ws_ret0, ws_ite, ws_for, ws_whl, ws_raise, ws_try, tryP_nx, tryP_ret, tryP_exc, ws_cont, ws_brk, wb_nil, wb_cons, seqF_nx, seqF_ret, seqF_brk, seqF_cont, seqF_exc, endP_nx, endP_ret, endP_exc, fin_tree, fin_app, fin_app0, at_app0, at_app, at_lt, set_app0, set_app, set_lt, take_app, take_self, at_set, vw_t, vw_o, tree_frz, tree_lst, tree_dic, fz_t, fz_o, fzs_nil, fzs_cons, nrm_t, nrm_o, turnF_nx, turnF_cont, turnF_brk, turnF_ret, turnF_exc, stands_nil, stands_cons, wat_t, wat_o, s0, s1, s2, s3, w1, w2, bindT, sets, trB, truth, pre2, pre3, mid3, isL, isCmp, putO, slc, inC, wipeE, seq?, atI_0, atI_1, atI_2, atI_m, ixN_0, ixN_1, scalT, T.flat, teq, eqT, eqD, below, T.ty, List.map_cons, List.map_nil, List.cons_append, List.nil_append, List.append_assoc, List.append_nil, List.length_cons, List.length_nil, List.length_append, List.length_set, List.length_map, List.getElem?_cons_zero, List.getElem?_cons_succ, List.set_cons_zero, List.set_cons_succ, List.set_set, List.replicate_succ, List.replicate_zero, Option.map_some, Option.map_none, if_true, if_false, ite_true, ite_false, if_false_right, Bool.false_eq_true, decide_eq_true_eq, Bool.and_eq_true, Bool.or_eq_true, Bool.true_or, Bool.false_or, Bool.or_false, Bool.true_and, Bool.and_true, Bool.and_false, Bool.false_and, Bool.not_true, Bool.not_false, Nat.add_zero, Nat.zero_add, true_and, and_true, eq_self, reduceCtorEq, and_self, Int.reduceNeg, Int.reduceEq, Int.reduceBEq, Int.reduceLT, Int.reduceLE, Int.reducePow, Int.reduceToNat, Int.reduceAdd, Int.reduceMul, Int.reduceMod, Int.reduceDiv, Int.reduceSub, Nat.reduceAdd, Nat.reduceSub, Nat.reduceLT, Nat.reduceLeDiff, Nat.reducePow, true_or, or_true, or_false, false_or, beq_iff_eq, RV.t.injEq, RV.o.injEq, T.int.injEq, T.str.injEq, T.bl.injEq, Option.some.injEq, ge_iff_le, gt_iff_lt, exists_eq_left', exists_eq_left, List.any_cons, List.any_nil, List.contains_cons, List.contains_nil, exB, String.reduceBEq, String.reduceEq, beq_self_eq_true, bne_self_eq_false, Bool.not_eq_true, Bool.not_eq_false, Tabs.G, List.lookup_cons, List.lookup_nil]
      · simp -implicitDefEqProofs only [wp_stepC, held, wp_ok, wp_exc, wp_fail, wp_bind, wp_liftE, wp_noX, wp_ite, wp_var, wp_cst, wp_glb, wp_op0, wp_op1, wp_op2, wp_op3, wp_and, wp_or, wp_not, wp_iteE, wp_chain, wp_call, wp_tup, wp_lst, wp_dct, wp_comp, wp_nil, wp_cons, wt_and, wt_or, wt_not, wt_op2, wt_chain, wt_var, wt_cst, wt_op1, wt_call, wi_one, wi_two, asB_b, ws_ex, ws_asg, ws_sset, ws_ret, ws_ret0, ws_ite, ws_for, ws_whl, ws_raise, ws_try, tryP_nx, tryP_ret, tryP_exc, ws_cont, ws_brk, wb_nil, wb_cons, seqF_nx, seqF_ret, seqF_brk, seqF_cont, seqF_exc, endP_nx, endP_ret, endP_exc, fin_tree, fin_app, fin_app0, at_app0, at_app, at_lt, set_app0, set_app, set_lt, take_app, take_self, at_set, vw_t, vw_o, tree_frz, tree_lst, tree_dic, fz_t, fz_o, fzs_nil, fzs_cons, nrm_t, nrm_o, turnF_nx, turnF_cont, turnF_brk, turnF_ret, turnF_exc, stands_nil, stands_cons, wat_t, wat_o, s0, s1, s2, s3, w1, w2, bindT, sets, trB, truth, pre2, pre3, mid3, isL, isCmp, putO, slc, inC, wipeE, seq?, atI_0, atI_1, atI_2, atI_m, ixN_0, ixN_1, scalT, T.flat, teq, eqT, eqD, below, T.ty, List.map_cons, List.map_nil, List.cons_append, List.nil_append, List.append_assoc, List.append_nil, List.length_cons, List.length_nil, List.length_append, List.length_set, List.length_map, List.getElem?_cons_zero, List.getElem?_cons_succ, List.set_cons_zero, List.set_cons_succ, List.set_set, List.replicate_succ, List.replicate_zero, Option.map_some, Option.map_none, if_true, if_false, ite_true, ite_false, if_false_right, Bool.false_eq_true, decide_eq_true_eq, Bool.and_eq_true, Bool.or_eq_true, Bool.true_or, Bool.false_or, Bool.or_false, Bool.true_and, Bool.and_true, Bool.and_false, Bool.false_and, Bool.not_true, Bool.not_false, Nat.add_zero, Nat.zero_add, true_and, and_true, eq_self, reduceCtorEq, and_self, Int.reduceNeg, Int.reduceEq, Int.reduceBEq, Int.reduceLT, Int.reduceLE, Int.reducePow, Int.reduceToNat, Int.reduceAdd, Int.reduceMul, Int.reduceMod, Int.reduceDiv, Int.reduceSub, Nat.reduceAdd, Nat.reduceSub, Nat.reduceLT, Nat.reduceLeDiff, Nat.reducePow, true_or, or_true, or_false, false_or, beq_iff_eq, RV.t.injEq, RV.o.injEq, T.int.injEq, T.str.injEq, T.bl.injEq, Option.some.injEq, ge_iff_le, gt_iff_lt, exists_eq_left', exists_eq_left, List.any_cons, List.any_nil, List.contains_cons, List.contains_nil, exB, String.reduceBEq, String.reduceEq, beq_self_eq_true, bne_self_eq_false, Bool.not_eq_true, Bool.not_eq_false, Tabs.G, List.lookup_cons, List.lookup_nil]
    · simp -implicitDefEqProofs only [List.filterMap, held, wp_ok, wp_exc, wp_fail, wp_bind, wp_liftE, wp_noX, wp_ite, wp_var, wp_cst, wp_glb, wp_op0, wp_op1, wp_op2, wp_op3, wp_and, wp_or, wp_not, wp_iteE, wp_chain, wp_call, wp_tup, wp_lst, wp_dct, wp_comp, wp_nil, wp_cons, wt_and, wt_or, wt_not, wt_op2, wt_chain, wt_var, wt_cst, wt_op1, wt_call, wi_one, wi_two, asB_b, ws_ex, ws_asg, ws_sset, ws_ret, ws_ret0, ws_ite, ws_for, ws_whl, ws_raise, ws_try, tryP_nx, tryP_ret, tryP_exc, ws_cont, ws_brk, wb_nil, wb_cons, seqF_nx, seqF_ret, seqF_brk, seqF_cont, seqF_exc, endP_nx, endP_ret, endP_exc, fin_tree, fin_app, fin_app0, at_app0, at_app, at_lt, set_app0, set_app, set_lt, take_app, take_self, at_set, vw_t, vw_o, tree_frz, tree_lst, tree_dic, fz_t, fz_o, fzs_nil, fzs_cons, nrm_t, nrm_o, turnF_nx, turnF_cont, turnF_brk, turnF_ret, turnF_exc, stands_nil, stands_cons, wat_t, wat_o, s0, s1, s2, s3, w1, w2, bindT, sets, trB, truth, pre2, pre3, mid3, isL, isCmp, putO, slc, inC, wipeE, seq?, atI_0, atI_1, atI_2, atI_m, ixN_0, ixN_1, scalT, T.flat, teq, eqT, eqD, below, T.ty, List.map_cons, List.map_nil, List.cons_append, List.nil_append, List.append_assoc, List.append_nil, List.length_cons, List.length_nil, List.length_append, List.length_set, List.length_map, List.getElem?_cons_zero, List.getElem?_cons_succ, List.set_cons_zero, List.set_cons_succ, List.set_set, List.replicate_succ, List.replicate_zero, Option.map_some, Option.map_none, if_true, if_false, ite_true, ite_false, if_false_right, Bool.false_eq_true, decide_eq_true_eq, Bool.and_eq_true, Bool.or_eq_true, Bool.true_or, Bool.false_or, Bool.or_false, Bool.true_and, Bool.and_true, Bool.and_false, Bool.false_and, Bool.not_true, Bool.not_false, Nat.add_zero, Nat.zero_add, true_and, and_true, eq_self, reduceCtorEq, and_self, Int.reduceNeg, Int.reduceEq, Int.reduceBEq, Int.reduceLT, Int.reduceLE, Int.reducePow, Int.reduceToNat, Int.reduceAdd, Int.reduceMul, Int.reduceMod, Int.reduceDiv, Int.reduceSub, Nat.reduceAdd, Nat.reduceSub, Nat.reduceLT, Nat.reduceLeDiff, Nat.reducePow, true_or, or_true, or_false, false_or, beq_iff_eq, RV.t.injEq, RV.o.injEq, T.int.injEq, T.str.injEq, T.bl.injEq, Option.some.injEq, ge_iff_le, gt_iff_lt, exists_eq_left', exists_eq_left, List.any_cons, List.any_nil, List.contains_cons, List.contains_nil, exB, String.reduceBEq, String.reduceEq, beq_self_eq_true, bne_self_eq_false, Bool.not_eq_true, Bool.not_eq_false, Tabs.G, List.lookup_cons, List.lookup_nil]
      rfl
  · simp -implicitDefEqProofs only [g_law_word_of, exB, z2, wp_ok, wp_exc, wp_fail, wp_bind, wp_liftE, wp_noX, wp_ite, wp_var, wp_cst, wp_glb, wp_op0, wp_op1, wp_op2, wp_op3, wp_and, wp_or, wp_not, wp_iteE, wp_chain, wp_call, wp_tup, wp_lst, wp_dct, wp_comp, wp_nil, wp_cons, wt_and, wt_or, wt_not, wt_op2, wt_chain, wt_var, wt_cst, wt_op1, wt_call, wi_one, wi_two, asB_b, ws_ex, ws_asg, ws_sset, ws_ret, ws_ret0, ws_ite, ws_for, ws_whl, ws_raise, ws_try, tryP_nx, tryP_ret, tryP_exc, ws_cont, ws_brk, wb_nil, wb_cons, seqF_nx, seqF_ret, seqF_brk, seqF_cont, seqF_exc, endP_nx, endP_ret, endP_exc, fin_tree, fin_app, fin_app0, at_app0, at_app, at_lt, set_app0, set_app, set_lt, take_app, take_self, at_set, vw_t, vw_o, tree_frz, tree_lst, tree_dic, fz_t, fz_o, fzs_nil, fzs_cons, nrm_t, nrm_o, turnF_nx, turnF_cont, turnF_brk, turnF_ret, turnF_exc, stands_nil, stands_cons, wat_t, wat_o, s0, s1, s2, s3, w1, w2, bindT, sets, trB, truth, pre2, pre3, mid3, isL, isCmp, putO, slc, inC, wipeE, seq?, atI_0, atI_1, atI_2, atI_m, ixN_0, ixN_1, scalT, T.flat, teq, eqT, eqD, below, T.ty, List.map_cons, List.map_nil, List.cons_append, List.nil_append, List.append_assoc, List.append_nil, List.length_cons, List.length_nil, List.length_append, List.length_set, List.length_map, List.getElem?_cons_zero, List.getElem?_cons_succ, List.set_cons_zero, List.set_cons_succ, List.set_set, List.replicate_succ, List.replicate_zero, Option.map_some, Option.map_none, if_true, if_false, ite_true, ite_false, if_false_right, Bool.false_eq_true, decide_eq_true_eq, Bool.and_eq_true, Bool.or_eq_true, Bool.true_or, Bool.false_or, Bool.or_false, Bool.true_and, Bool.and_true, Bool.and_false, Bool.false_and, Bool.not_true, Bool.not_false, Nat.add_zero, Nat.zero_add, true_and, and_true, eq_self, reduceCtorEq, and_self, Int.reduceNeg, Int.reduceEq, Int.reduceBEq, Int.reduceLT, Int.reduceLE, Int.reducePow, Int.reduceToNat, Int.reduceAdd, Int.reduceMul, Int.reduceMod, Int.reduceDiv, Int.reduceSub, Nat.reduceAdd, Nat.reduceSub, Nat.reduceLT, Nat.reduceLeDiff, Nat.reducePow, true_or, or_true, or_false, false_or, beq_iff_eq, RV.t.injEq, RV.o.injEq, T.int.injEq, T.str.injEq, T.bl.injEq, Option.some.injEq, ge_iff_le, gt_iff_lt, exists_eq_left', exists_eq_left, List.any_cons, List.any_nil, List.contains_cons, List.contains_nil, exB, String.reduceBEq, String.reduceEq, beq_self_eq_true, bne_self_eq_false, Bool.not_eq_true, Bool.not_eq_false, Tabs.G, List.lookup_cons, List.lookup_nil]
    refine wp_lcL_pure' (S ++ [.lst [T.tup [T.bl false, T.str (Str.ofString "place")], T.tup [T.bl true, T.str (Str.ofString "full")]]]) held (by simp) (by simp) (fun acc => by simp -implicitDefEqProofs only [wp_ok, wp_exc, wp_fail, wp_bind, wp_liftE, wp_noX, wp_ite, wp_var, wp_cst, wp_glb, wp_op0, wp_op1, wp_op2, wp_op3, wp_and, wp_or, wp_not, wp_iteE, wp_chain, wp_call, wp_tup, wp_lst, wp_dct, wp_comp, wp_nil, wp_cons, wt_and, wt_or, wt_not, wt_op2, wt_chain, wt_var, wt_cst, wt_op1, wt_call, wi_one, wi_two, asB_b, ws_ex, ws_asg, ws_sset, ws_ret, ws_ret0, ws_ite, ws_for, ws_whl, ws_raise, ws_try, tryP_nx, tryP_ret, tryP_exc, ws_cont, ws_brk, wb_nil, wb_cons, seqF_nx, seqF_ret, seqF_brk, seqF_cont, seqF_exc, endP_nx, endP_ret, endP_exc, fin_tree, fin_app, fin_app0, at_app0, at_app, at_lt, set_app0, set_app, set_lt, take_app, take_self, at_set, vw_t, vw_o, tree_frz, tree_lst, tree_dic, fz_t, fz_o, fzs_nil, fzs_cons, nrm_t, nrm_o, turnF_nx, turnF_cont, turnF_brk, turnF_ret, turnF_exc, stands_nil, stands_cons, wat_t, wat_o, s0, s1, s2, s3, w1, w2, bindT, sets, trB, truth, pre2, pre3, mid3, isL, isCmp, putO, slc, inC, wipeE, seq?, atI_0, atI_1, atI_2, atI_m, ixN_0, ixN_1, scalT, T.flat, teq, eqT, eqD, below, T.ty, List.map_cons, List.map_nil, List.cons_append, List.nil_append, List.append_assoc, List.append_nil, List.length_cons, List.length_nil, List.length_append, List.length_set, List.length_map, List.getElem?_cons_zero, List.getElem?_cons_succ, List.set_cons_zero, List.set_cons_succ, List.set_set, List.replicate_succ, List.replicate_zero, Option.map_some, Option.map_none, if_true, if_false, ite_true, ite_false, if_false_right, Bool.false_eq_true, decide_eq_true_eq, Bool.and_eq_true, Bool.or_eq_true, Bool.true_or, Bool.false_or, Bool.or_false, Bool.true_and, Bool.and_true, Bool.and_false, Bool.false_and, Bool.not_true, Bool.not_false, Nat.add_zero, Nat.zero_add, true_and, and_true, eq_self, reduceCtorEq, and_self, Int.reduceNeg, Int.reduceEq, Int.reduceBEq, Int.reduceLT, Int.reduceLE, Int.reducePow, Int.reduceToNat, Int.reduceAdd, Int.reduceMul, Int.reduceMod, Int.reduceDiv, Int.reduceSub, Nat.reduceAdd, Nat.reduceSub, Nat.reduceLT, Nat.reduceLeDiff, Nat.reducePow, true_or, or_true, or_false, false_or, beq_iff_eq, RV.t.injEq, RV.o.injEq, T.int.injEq, T.str.injEq, T.bl.injEq, Option.some.injEq, ge_iff_le, gt_iff_lt, exists_eq_left', exists_eq_left, List.any_cons, List.any_nil, List.contains_cons, List.contains_nil, exB, String.reduceBEq, String.reduceEq, beq_self_eq_true, bne_self_eq_false, Bool.not_eq_true, Bool.not_eq_false, Tabs.G, List.lookup_cons, List.lookup_nil]) (by simp -implicitDefEqProofs only [z2, wp_ok, wp_exc, wp_fail, wp_bind, wp_liftE, wp_noX, wp_ite, wp_var, wp_cst, wp_glb, wp_op0, wp_op1, wp_op2, wp_op3, wp_and, wp_or, wp_not, wp_iteE, wp_chain, wp_call, wp_tup, wp_lst, wp_dct, wp_comp, wp_nil, wp_cons, wt_and, wt_or, wt_not, wt_op2, wt_chain, wt_var, wt_cst, wt_op1, wt_call, wi_one, wi_two, asB_b, ws_ex, ws_asg, ws_sset, ws_ret, ws_ret0, ws_ite, ws_for, ws_whl, ws_raise, ws_try, tryP_nx, tryP_ret, tryP_exc, ws_cont, ws_brk, wb_nil, wb_cons, seqF_nx, seqF_ret, seqF_brk, seqF_cont, seqF_exc, endP_nx, endP_ret, endP_exc, fin_tree, fin_app, fin_app0, at_app0, at_app, at_lt, set_app0, set_app, set_lt, take_app, take_self, at_set, vw_t, vw_o, tree_frz, tree_lst, tree_dic, fz_t, fz_o, fzs_nil, fzs_cons, nrm_t, nrm_o, turnF_nx, turnF_cont, turnF_brk, turnF_ret, turnF_exc, stands_nil, stands_cons, wat_t, wat_o, s0, s1, s2, s3, w1, w2, bindT, sets, trB, truth, pre2, pre3, mid3, isL, isCmp, putO, slc, inC, wipeE, seq?, atI_0, atI_1, atI_2, atI_m, ixN_0, ixN_1, scalT, T.flat, teq, eqT, eqD, below, T.ty, List.map_cons, List.map_nil, List.cons_append, List.nil_append, List.append_assoc, List.append_nil, List.length_cons, List.length_nil, List.length_append, List.length_set, List.length_map, List.getElem?_cons_zero, List.getElem?_cons_succ, List.set_cons_zero, List.set_cons_succ, List.set_set, List.replicate_succ, List.replicate_zero, Option.map_some, Option.map_none, if_true, if_false, ite_true, ite_false, if_false_right, Bool.false_eq_true, decide_eq_true_eq, Bool.and_eq_true, Bool.or_eq_true, Bool.true_or, Bool.false_or, Bool.or_false, Bool.true_and, Bool.and_true, Bool.and_false, Bool.false_and, Bool.not_true, Bool.not_false, Nat.add_zero, Nat.zero_add, true_and, and_true, eq_self, reduceCtorEq, and_self, Int.reduceNeg, Int.reduceEq, Int.reduceBEq, Int.reduceLT, Int.reduceLE, Int.reducePow, Int.reduceToNat, Int.reduceAdd, Int.reduceMul, Int.reduceMod, Int.reduceDiv, Int.reduceSub, Nat.reduceAdd, Nat.reduceSub, Nat.reduceLT, Nat.reduceLeDiff, Nat.reducePow, true_or, or_true, or_false, false_or, beq_iff_eq, RV.t.injEq, RV.o.injEq, T.int.injEq, T.str.injEq, T.bl.injEq, Option.some.injEq, ge_iff_le, gt_iff_lt, exists_eq_left', exists_eq_left, List.any_cons, List.any_nil, List.contains_cons, List.contains_nil, exB, String.reduceBEq, String.reduceEq, beq_self_eq_true, bne_self_eq_false, Bool.not_eq_true, Bool.not_eq_false, Tabs.G, List.lookup_cons, List.lookup_nil]) (fun x hx acc => ?_) ?_
    · simp -implicitDefEqProofs only [List.mem_cons, List.not_mem_nil, or_false] at hx
      rcases hx with rfl | rfl
      · simp -implicitDefEqProofs only [wp_stepC, held, wp_ok, wp_exc, wp_fail, wp_bind, wp_liftE, wp_noX, wp_ite, wp_var, wp_cst, wp_glb, wp_op0, wp_op1, wp_op2, wp_op3, wp_and, wp_or, wp_not, wp_iteE, wp_chain, wp_call, wp_tup, wp_lst, wp_dct, wp_comp, wp_nil, wp_cons, wt_and, wt_or, wt_not, wt_op2, wt_chain, wt_var, wt_cst, wt_op1, wt_call, wi_one, wi_two, asB_b, ws_ex, ws_asg, ws_sset, ws_ret, ws_ret0, ws_ite, ws_for, ws_whl, ws_raise, ws_try, tryP_nx, tryP_ret, tryP_exc, ws_cont, ws_brk, wb_nil, wb_cons, seqF_nx, seqF_ret, seqF_brk, seqF_cont, seqF_exc, endP_nx, endP_ret, endP_exc, fin_tree, fin_app, fin_app0, at_app0, at_app, at_lt, set_app0, set_app, set_lt, take_app, take_self, at_set, vw_t, vw_o, tree_frz, tree_lst, tree_dic, fz_t, fz_o, fzs_nil, fzs_cons, nrm_t, nrm_o, turnF_nx, turnF_cont, turnF_brk, turnF_ret, turnF_exc, stands_nil, stands_cons, wat_t, wat_o, s0, s1, s2, s3, w1, w2, bindT, sets, trB, truth, pre2, pre3, mid3, isL, isCmp, putO, slc, inC, wipeE, seq?, atI_0, atI_1, atI_2, atI_m, ixN_0, ixN_1, scalT, T.flat, teq, eqT, eqD, below, T.ty, List.map_cons, List.map_nil, List.cons_append, List.nil_append, List.append_assoc, List.append_nil, List.length_cons, List.length_nil, List.length_append, List.length_set, List.length_map, List.getElem?_cons_zero, List.getElem?_cons_succ, List.set_cons_zero, List.set_cons_succ, List.set_set, List.replicate_succ, List.replicate_zero, Option.map_some, Option.map_none, if_true, if_false, ite_true, ite_false, if_false_right, Bool.false_eq_true, decide_eq_true_eq, Bool.and_eq_true, Bool.or_eq_true, Bool.true_or, Bool.false_or, Bool.or_false, Bool.true_and, Bool.and_true, Bool.and_false, Bool.false_and, Bool.not_true, Bool.not_false, Nat.add_zero, Nat.zero_add, true_and, and_true, eq_self, reduceCtorEq, and_self, Int.reduceNeg, Int.reduceEq, Int.reduceBEq, Int.reduceLT, Int.reduceLE, Int.reducePow, Int.reduceToNat, Int.reduceAdd, Int.reduceMul, Int.reduceMod, Int.reduceDiv, Int.reduceSub, Nat.reduceAdd, Nat.reduceSub, Nat.reduceLT, Nat.reduceLeDiff, Nat.reducePow, true_or, or_true, or_false, false_or, beq_iff_eq, RV.t.injEq, RV.o.injEq, T.int.injEq, T.str.injEq, T.bl.injEq, Option.some.injEq, ge_iff_le, gt_iff_lt, exists_eq_left', exists_eq_left, List.any_cons, List.any_nil, List.contains_cons, List.contains_nil, exB, String.reduceBEq, String.reduceEq, beq_self_eq_true, bne_self_eq_false, Bool.not_eq_true, Bool.not_eq_false, Tabs.G, List.lookup_cons, List.lookup_nil]
      · simp -implicitDefEqProofs only [wp_stepC, held, wp_ok, wp_exc, wp_fail, wp_bind, wp_liftE, wp_noX, wp_ite, wp_var, wp_cst, wp_glb, wp_op0, wp_op1, wp_op2, wp_op3, wp_and, wp_or, wp_not, wp_iteE, wp_chain, wp_call, wp_tup, wp_lst, wp_dct, wp_comp, wp_nil, wp_cons, wt_and, wt_or, wt_not, wt_op2, wt_chain, wt_var, wt_cst, wt_op1, wt_call, wi_one, wi_two, asB_b, ws_ex, ws_asg, ws_sset, ws_ret, ws_ret0, ws_ite, ws_for, ws_whl, ws_raise, ws_try, tryP_nx, tryP_ret, tryP_exc, ws_cont, ws_brk, wb_nil, wb_cons, seqF_nx, seqF_ret, seqF_brk, seqF_cont, seqF_exc, endP_nx, endP_ret, endP_exc, fin_tree, fin_app, fin_app0, at_app0, at_app, at_lt, set_app0, set_app, set_lt, take_app, take_self, at_set, vw_t, vw_o, tree_frz, tree_lst, tree_dic, fz_t, fz_o, fzs_nil, fzs_cons, nrm_t, nrm_o, turnF_nx, turnF_cont, turnF_brk, turnF_ret, turnF_exc, stands_nil, stands_cons, wat_t, wat_o, s0, s1, s2, s3, w1, w2, bindT, sets, trB, truth, pre2, pre3, mid3, isL, isCmp, putO, slc, inC, wipeE, seq?, atI_0, atI_1, atI_2, atI_m, ixN_0, ixN_1, scalT, T.flat, teq, eqT, eqD, below, T.ty, List.map_cons, List.map_nil, List.cons_append, List.nil_append, List.append_assoc, List.append_nil, List.length_cons, List.length_nil, List.length_append, List.length_set, List.length_map, List.getElem?_cons_zero, List.getElem?_cons_succ, List.set_cons_zero, List.set_cons_succ, List.set_set, List.replicate_succ, List.replicate_zero, Option.map_some, Option.map_none, if_true, if_false, ite_true, ite_false, if_false_right, Bool.false_eq_true, decide_eq_true_eq, Bool.and_eq_true, Bool.or_eq_true, Bool.true_or, Bool.false_or, Bool.or_false, Bool.true_and, Bool.and_true, Bool.and_false, Bool.false_and, Bool.not_true, Bool.not_false, Nat.add_zero, Nat.zero_add, true_and, and_true, eq_self, reduceCtorEq, and_self, Int.reduceNeg, Int.reduceEq, Int.reduceBEq, Int.reduceLT, Int.reduceLE, Int.reducePow, Int.reduceToNat, Int.reduceAdd, Int.reduceMul, Int.reduceMod, Int.reduceDiv, Int.reduceSub, Nat.reduceAdd, Nat.reduceSub, Nat.reduceLT, Nat.reduceLeDiff, Nat.reducePow, true_or, or_true, or_false, false_or, beq_iff_eq, RV.t.injEq, RV.o.injEq, T.int.injEq, T.str.injEq, T.bl.injEq, Option.some.injEq, ge_iff_le, gt_iff_lt, exists_eq_left', exists_eq_left, List.any_cons, List.any_nil, List.contains_cons, List.contains_nil, exB, String.reduceBEq, String.reduceEq, beq_self_eq_true, bne_self_eq_false, Bool.not_eq_true, Bool.not_eq_false, Tabs.G, List.lookup_cons, List.lookup_nil]
    · simp -implicitDefEqProofs only [List.filterMap, held, wp_ok, wp_exc, wp_fail, wp_bind, wp_liftE, wp_noX, wp_ite, wp_var, wp_cst, wp_glb, wp_op0, wp_op1, wp_op2, wp_op3, wp_and, wp_or, wp_not, wp_iteE, wp_chain, wp_call, wp_tup, wp_lst, wp_dct, wp_comp, wp_nil, wp_cons, wt_and, wt_or, wt_not, wt_op2, wt_chain, wt_var, wt_cst, wt_op1, wt_call, wi_one, wi_two, asB_b, ws_ex, ws_asg, ws_sset, ws_ret, ws_ret0, ws_ite, ws_for, ws_whl, ws_raise, ws_try, tryP_nx, tryP_ret, tryP_exc, ws_cont, ws_brk, wb_nil, wb_cons, seqF_nx, seqF_ret, seqF_brk, seqF_cont, seqF_exc, endP_nx, endP_ret, endP_exc, fin_tree, fin_app, fin_app0, at_app0, at_app, at_lt, set_app0, set_app, set_lt, take_app, take_self, at_set, vw_t, vw_o, tree_frz, tree_lst, tree_dic, fz_t, fz_o, fzs_nil, fzs_cons, nrm_t, nrm_o, turnF_nx, turnF_cont, turnF_brk, turnF_ret, turnF_exc, stands_nil, stands_cons, wat_t, wat_o, s0, s1, s2, s3, w1, w2, bindT, sets, trB, truth, pre2, pre3, mid3, isL, isCmp, putO, slc, inC, wipeE, seq?, atI_0, atI_1, atI_2, atI_m, ixN_0, ixN_1, scalT, T.flat, teq, eqT, eqD, below, T.ty, List.map_cons, List.map_nil, List.cons_append, List.nil_append, List.append_assoc, List.append_nil, List.length_cons, List.length_nil, List.length_append, List.length_set, List.length_map, List.getElem?_cons_zero, List.getElem?_cons_succ, List.set_cons_zero, List.set_cons_succ, List.set_set, List.replicate_succ, List.replicate_zero, Option.map_some, Option.map_none, if_true, if_false, ite_true, ite_false, if_false_right, Bool.false_eq_true, decide_eq_true_eq, Bool.and_eq_true, Bool.or_eq_true, Bool.true_or, Bool.false_or, Bool.or_false, Bool.true_and, Bool.and_true, Bool.and_false, Bool.false_and, Bool.not_true, Bool.not_false, Nat.add_zero, Nat.zero_add, true_and, and_true, eq_self, reduceCtorEq, and_self, Int.reduceNeg, Int.reduceEq, Int.reduceBEq, Int.reduceLT, Int.reduceLE, Int.reducePow, Int.reduceToNat, Int.reduceAdd, Int.reduceMul, Int.reduceMod, Int.reduceDiv, Int.reduceSub, Nat.reduceAdd, Nat.reduceSub, Nat.reduceLT, Nat.reduceLeDiff, Nat.reducePow, true_or, or_true, or_false, false_or, beq_iff_eq, RV.t.injEq, RV.o.injEq, T.int.injEq, T.str.injEq, T.bl.injEq, Option.some.injEq, ge_iff_le, gt_iff_lt, exists_eq_left', exists_eq_left, List.any_cons, List.any_nil, List.contains_cons, List.contains_nil, exB, String.reduceBEq, String.reduceEq, beq_self_eq_true, bne_self_eq_false, Bool.not_eq_true, Bool.not_eq_false, Tabs.G, List.lookup_cons, List.lookup_nil]
      rfl
theorem told_odd {k : Nat} {S : Store} {l : List Stamp} {x : T} (hx : noE x) (hl : l.length ≤ 24) (ho : isP l.length x = false) :
    (C (k + 4) "_law_told" [.t (.tup (l.map stT)), .t x] S).wp (fun v S' => v = .t (.str (Str.ofString "place")) ∧ S' = S) nE := by
  refine wp_fn d_g_law_told rfl ?_
  simp -implicitDefEqProofs only [g_law_told, wp_ok, wp_exc, wp_fail, wp_bind, wp_liftE, wp_noX, wp_ite, wp_var, wp_cst, wp_glb, wp_op0, wp_op1, wp_op2, wp_op3, wp_and, wp_or, wp_not, wp_iteE, wp_chain, wp_call, wp_tup, wp_lst, wp_dct, wp_comp, wp_nil, wp_cons, wt_and, wt_or, wt_not, wt_op2, wt_chain, wt_var, wt_cst, wt_op1, wt_call, wi_one, wi_two, asB_b, ws_ex, ws_asg, ws_sset, ws_ret, ws_ret0, ws_ite, ws_for, ws_whl, ws_raise, ws_try, tryP_nx, tryP_ret, tryP_exc, ws_cont, ws_brk, wb_nil, wb_cons, seqF_nx, seqF_ret, seqF_brk, seqF_cont, seqF_exc, endP_nx, endP_ret, endP_exc, fin_tree, fin_app, fin_app0, at_app0, at_app, at_lt, set_app0, set_app, set_lt, take_app, take_self, at_set, vw_t, vw_o, tree_frz, tree_lst, tree_dic, fz_t, fz_o, fzs_nil, fzs_cons, nrm_t, nrm_o, turnF_nx, turnF_cont, turnF_brk, turnF_ret, turnF_exc, stands_nil, stands_cons, wat_t, wat_o, s0, s1, s2, s3, w1, w2, bindT, sets, trB, truth, pre2, pre3, mid3, isL, isCmp, putO, slc, inC, wipeE, seq?, atI_0, atI_1, atI_2, atI_m, ixN_0, ixN_1, scalT, T.flat, teq, eqT, eqD, below, T.ty, List.map_cons, List.map_nil, List.cons_append, List.nil_append, List.append_assoc, List.append_nil, List.length_cons, List.length_nil, List.length_append, List.length_set, List.length_map, List.getElem?_cons_zero, List.getElem?_cons_succ, List.set_cons_zero, List.set_cons_succ, List.set_set, List.replicate_succ, List.replicate_zero, Option.map_some, Option.map_none, if_true, if_false, ite_true, ite_false, if_false_right, Bool.false_eq_true, decide_eq_true_eq, Bool.and_eq_true, Bool.or_eq_true, Bool.true_or, Bool.false_or, Bool.or_false, Bool.true_and, Bool.and_true, Bool.and_false, Bool.false_and, Bool.not_true, Bool.not_false, Nat.add_zero, Nat.zero_add, true_and, and_true, eq_self, reduceCtorEq, and_self, Int.reduceNeg, Int.reduceEq, Int.reduceBEq, Int.reduceLT, Int.reduceLE, Int.reducePow, Int.reduceToNat, Int.reduceAdd, Int.reduceMul, Int.reduceMod, Int.reduceDiv, Int.reduceSub, Nat.reduceAdd, Nat.reduceSub, Nat.reduceLT, Nat.reduceLeDiff, Nat.reducePow, true_or, or_true, or_false, false_or, beq_iff_eq, RV.t.injEq, RV.o.injEq, T.int.injEq, T.str.injEq, T.bl.injEq, Option.some.injEq, ge_iff_le, gt_iff_lt, exists_eq_left', exists_eq_left, List.any_cons, List.any_nil, List.contains_cons, List.contains_nil, exB, String.reduceBEq, String.reduceEq, beq_self_eq_true, bne_self_eq_false, Bool.not_eq_true, Bool.not_eq_false, Tabs.G, List.lookup_cons, List.lookup_nil]
  refine wp_mono (out_any hx hl) (fun v S' ⟨h1, e1, e2⟩ => ?_) (fun e S' ⟨e1, e2, e3⟩ => ?_)
  · rw [ho] at h1
    cases h1
  · obtain ⟨c, f⟩ := e
    subst e1
    simp only at e2
    subst e2
    simp -implicitDefEqProofs only [wp_ok, wp_exc, wp_fail, wp_bind, wp_liftE, wp_noX, wp_ite, wp_var, wp_cst, wp_glb, wp_op0, wp_op1, wp_op2, wp_op3, wp_and, wp_or, wp_not, wp_iteE, wp_chain, wp_call, wp_tup, wp_lst, wp_dct, wp_comp, wp_nil, wp_cons, wt_and, wt_or, wt_not, wt_op2, wt_chain, wt_var, wt_cst, wt_op1, wt_call, wi_one, wi_two, asB_b, ws_ex, ws_asg, ws_sset, ws_ret, ws_ret0, ws_ite, ws_for, ws_whl, ws_raise, ws_try, tryP_nx, tryP_ret, tryP_exc, ws_cont, ws_brk, wb_nil, wb_cons, seqF_nx, seqF_ret, seqF_brk, seqF_cont, seqF_exc, endP_nx, endP_ret, endP_exc, fin_tree, fin_app, fin_app0, at_app0, at_app, at_lt, set_app0, set_app, set_lt, take_app, take_self, at_set, vw_t, vw_o, tree_frz, tree_lst, tree_dic, fz_t, fz_o, fzs_nil, fzs_cons, nrm_t, nrm_o, turnF_nx, turnF_cont, turnF_brk, turnF_ret, turnF_exc, stands_nil, stands_cons, wat_t, wat_o, s0, s1, s2, s3, w1, w2, bindT, sets, trB, truth, pre2, pre3, mid3, isL, isCmp, putO, slc, inC, wipeE, seq?, atI_0, atI_1, atI_2, atI_m, ixN_0, ixN_1, scalT, T.flat, teq, eqT, eqD, below, T.ty, List.map_cons, List.map_nil, List.cons_append, List.nil_append, List.append_assoc, List.append_nil, List.length_cons, List.length_nil, List.length_append, List.length_set, List.length_map, List.getElem?_cons_zero, List.getElem?_cons_succ, List.set_cons_zero, List.set_cons_succ, List.set_set, List.replicate_succ, List.replicate_zero, Option.map_some, Option.map_none, if_true, if_false, ite_true, ite_false, if_false_right, Bool.false_eq_true, decide_eq_true_eq, Bool.and_eq_true, Bool.or_eq_true, Bool.true_or, Bool.false_or, Bool.or_false, Bool.true_and, Bool.and_true, Bool.and_false, Bool.false_and, Bool.not_true, Bool.not_false, Nat.add_zero, Nat.zero_add, true_and, and_true, eq_self, reduceCtorEq, and_self, Int.reduceNeg, Int.reduceEq, Int.reduceBEq, Int.reduceLT, Int.reduceLE, Int.reducePow, Int.reduceToNat, Int.reduceAdd, Int.reduceMul, Int.reduceMod, Int.reduceDiv, Int.reduceSub, Nat.reduceAdd, Nat.reduceSub, Nat.reduceLT, Nat.reduceLeDiff, Nat.reducePow, true_or, or_true, or_false, false_or, beq_iff_eq, RV.t.injEq, RV.o.injEq, T.int.injEq, T.str.injEq, T.bl.injEq, Option.some.injEq, ge_iff_le, gt_iff_lt, exists_eq_left', exists_eq_left, List.any_cons, List.any_nil, List.contains_cons, List.contains_nil, exB, String.reduceBEq, String.reduceEq, beq_self_eq_true, bne_self_eq_false, Bool.not_eq_true, Bool.not_eq_false, Tabs.G, List.lookup_cons, List.lookup_nil]
    refine wp_use (word_ok (.inl rfl)) fun v S' ⟨e1, e2⟩ => ?_
    subst e1 e2
    simp -implicitDefEqProofs only [wp_ok, wp_exc, wp_fail, wp_bind, wp_liftE, wp_noX, wp_ite, wp_var, wp_cst, wp_glb, wp_op0, wp_op1, wp_op2, wp_op3, wp_and, wp_or, wp_not, wp_iteE, wp_chain, wp_call, wp_tup, wp_lst, wp_dct, wp_comp, wp_nil, wp_cons, wt_and, wt_or, wt_not, wt_op2, wt_chain, wt_var, wt_cst, wt_op1, wt_call, wi_one, wi_two, asB_b, ws_ex, ws_asg, ws_sset, ws_ret, ws_ret0, ws_ite, ws_for, ws_whl, ws_raise, ws_try, tryP_nx, tryP_ret, tryP_exc, ws_cont, ws_brk, wb_nil, wb_cons, seqF_nx, seqF_ret, seqF_brk, seqF_cont, seqF_exc, endP_nx, endP_ret, endP_exc, fin_tree, fin_app, fin_app0, at_app0, at_app, at_lt, set_app0, set_app, set_lt, take_app, take_self, at_set, vw_t, vw_o, tree_frz, tree_lst, tree_dic, fz_t, fz_o, fzs_nil, fzs_cons, nrm_t, nrm_o, turnF_nx, turnF_cont, turnF_brk, turnF_ret, turnF_exc, stands_nil, stands_cons, wat_t, wat_o, s0, s1, s2, s3, w1, w2, bindT, sets, trB, truth, pre2, pre3, mid3, isL, isCmp, putO, slc, inC, wipeE, seq?, atI_0, atI_1, atI_2, atI_m, ixN_0, ixN_1, scalT, T.flat, teq, eqT, eqD, below, T.ty, List.map_cons, List.map_nil, List.cons_append, List.nil_append, List.append_assoc, List.append_nil, List.length_cons, List.length_nil, List.length_append, List.length_set, List.length_map, List.getElem?_cons_zero, List.getElem?_cons_succ, List.set_cons_zero, List.set_cons_succ, List.set_set, List.replicate_succ, List.replicate_zero, Option.map_some, Option.map_none, if_true, if_false, ite_true, ite_false, if_false_right, Bool.false_eq_true, decide_eq_true_eq, Bool.and_eq_true, Bool.or_eq_true, Bool.true_or, Bool.false_or, Bool.or_false, Bool.true_and, Bool.and_true, Bool.and_false, Bool.false_and, Bool.not_true, Bool.not_false, Nat.add_zero, Nat.zero_add, true_and, and_true, eq_self, reduceCtorEq, and_self, Int.reduceNeg, Int.reduceEq, Int.reduceBEq, Int.reduceLT, Int.reduceLE, Int.reducePow, Int.reduceToNat, Int.reduceAdd, Int.reduceMul, Int.reduceMod, Int.reduceDiv, Int.reduceSub, Nat.reduceAdd, Nat.reduceSub, Nat.reduceLT, Nat.reduceLeDiff, Nat.reducePow, true_or, or_true, or_false, false_or, beq_iff_eq, RV.t.injEq, RV.o.injEq, T.int.injEq, T.str.injEq, T.bl.injEq, Option.some.injEq, ge_iff_le, gt_iff_lt, exists_eq_left', exists_eq_left, List.any_cons, List.any_nil, List.contains_cons, List.contains_nil, exB, String.reduceBEq, String.reduceEq, beq_self_eq_true, bne_self_eq_false, Bool.not_eq_true, Bool.not_eq_false, Tabs.G, List.lookup_cons, List.lookup_nil]
    rfl
theorem at11 {a0 a1 a2 a3 a4 a5 a6 a7 a8 a9 a10 : T} {r : Int} (h0 : 0 ≤ r) (h1 : r < 11) : ∃ y, atI [a0, a1, a2, a3, a4, a5, a6, a7, a8, a9, a10] r = some y ∧ (y = a0 ∨ y = a1 ∨ y = a2 ∨ y = a3 ∨ y = a4 ∨ y = a5 ∨ y = a6 ∨ y = a7 ∨ y = a8 ∨ y = a9 ∨ y = a10) := by
  rcases (show r = 0 ∨ r = 1 ∨ r = 2 ∨ r = 3 ∨ r = 4 ∨ r = 5 ∨ r = 6 ∨ r = 7 ∨ r = 8 ∨ r = 9 ∨ r = 10 by omega) with rfl | rfl | rfl | rfl | rfl | rfl | rfl | rfl | rfl | rfl | rfl
  all_goals exact ⟨_, rfl, by simp⟩
theorem odd_ok {k : Nat} {S : Store} {p : Nat} {c m : Int} {n : Nat} (hp : S[p]? = some (.lst [.int c, .int m])) (h : PenOk c m) (hn : n ≤ 24) :
    (C (k + 2) "_law_odd" [.o p, .t (.int n)] S).wp (fun v S' => ∃ x c' m', v = .t x ∧ noE x ∧ isP n x = false ∧ PenOk c' m' ∧ S' = S.set p (.lst [.int c', .int m'])) nE := by
  have lp := lt_of_at hp
  have z0 : 11 ≤ sizeLine := zle (by decide)
  have z1 : 1 ≤ sizeLine := zle (by decide)
  refine wp_fn d_g_law_odd rfl ?_
  simp -implicitDefEqProofs only [g_law_odd, hp, lp, z0, z1, wp_ok, wp_exc, wp_fail, wp_bind, wp_liftE, wp_noX, wp_ite, wp_var, wp_cst, wp_glb, wp_op0, wp_op1, wp_op2, wp_op3, wp_and, wp_or, wp_not, wp_iteE, wp_chain, wp_call, wp_tup, wp_lst, wp_dct, wp_comp, wp_nil, wp_cons, wt_and, wt_or, wt_not, wt_op2, wt_chain, wt_var, wt_cst, wt_op1, wt_call, wi_one, wi_two, asB_b, ws_ex, ws_asg, ws_sset, ws_ret, ws_ret0, ws_ite, ws_for, ws_whl, ws_raise, ws_try, tryP_nx, tryP_ret, tryP_exc, ws_cont, ws_brk, wb_nil, wb_cons, seqF_nx, seqF_ret, seqF_brk, seqF_cont, seqF_exc, endP_nx, endP_ret, endP_exc, fin_tree, fin_app, fin_app0, at_app0, at_app, at_lt, set_app0, set_app, set_lt, take_app, take_self, at_set, vw_t, vw_o, tree_frz, tree_lst, tree_dic, fz_t, fz_o, fzs_nil, fzs_cons, nrm_t, nrm_o, turnF_nx, turnF_cont, turnF_brk, turnF_ret, turnF_exc, stands_nil, stands_cons, wat_t, wat_o, s0, s1, s2, s3, w1, w2, bindT, sets, trB, truth, pre2, pre3, mid3, isL, isCmp, putO, slc, inC, wipeE, seq?, atI_0, atI_1, atI_2, atI_m, ixN_0, ixN_1, scalT, T.flat, teq, eqT, eqD, below, T.ty, List.map_cons, List.map_nil, List.cons_append, List.nil_append, List.append_assoc, List.append_nil, List.length_cons, List.length_nil, List.length_append, List.length_set, List.length_map, List.getElem?_cons_zero, List.getElem?_cons_succ, List.set_cons_zero, List.set_cons_succ, List.set_set, List.replicate_succ, List.replicate_zero, Option.map_some, Option.map_none, if_true, if_false, ite_true, ite_false, if_false_right, Bool.false_eq_true, decide_eq_true_eq, Bool.and_eq_true, Bool.or_eq_true, Bool.true_or, Bool.false_or, Bool.or_false, Bool.true_and, Bool.and_true, Bool.and_false, Bool.false_and, Bool.not_true, Bool.not_false, Nat.add_zero, Nat.zero_add, true_and, and_true, eq_self, reduceCtorEq, and_self, Int.reduceNeg, Int.reduceEq, Int.reduceBEq, Int.reduceLT, Int.reduceLE, Int.reducePow, Int.reduceToNat, Int.reduceAdd, Int.reduceMul, Int.reduceMod, Int.reduceDiv, Int.reduceSub, Nat.reduceAdd, Nat.reduceSub, Nat.reduceLT, Nat.reduceLeDiff, Nat.reducePow, true_or, or_true, or_false, false_or, beq_iff_eq, RV.t.injEq, RV.o.injEq, T.int.injEq, T.str.injEq, T.bl.injEq, Option.some.injEq, ge_iff_le, gt_iff_lt, exists_eq_left', exists_eq_left, List.any_cons, List.any_nil, List.contains_cons, List.contains_nil, exB, String.reduceBEq, String.reduceEq, beq_self_eq_true, bne_self_eq_false, Bool.not_eq_true, Bool.not_eq_false, Tabs.G, List.lookup_cons, List.lookup_nil]
  refine ⟨by decide, by decide, ?_⟩
  refine wp_use (take_ok (p := p) (c := c) (m := m) (by simp -implicitDefEqProofs only [lp, hp, wp_ok, wp_exc, wp_fail, wp_bind, wp_liftE, wp_noX, wp_ite, wp_var, wp_cst, wp_glb, wp_op0, wp_op1, wp_op2, wp_op3, wp_and, wp_or, wp_not, wp_iteE, wp_chain, wp_call, wp_tup, wp_lst, wp_dct, wp_comp, wp_nil, wp_cons, wt_and, wt_or, wt_not, wt_op2, wt_chain, wt_var, wt_cst, wt_op1, wt_call, wi_one, wi_two, asB_b, ws_ex, ws_asg, ws_sset, ws_ret, ws_ret0, ws_ite, ws_for, ws_whl, ws_raise, ws_try, tryP_nx, tryP_ret, tryP_exc, ws_cont, ws_brk, wb_nil, wb_cons, seqF_nx, seqF_ret, seqF_brk, seqF_cont, seqF_exc, endP_nx, endP_ret, endP_exc, fin_tree, fin_app, fin_app0, at_app0, at_app, at_lt, set_app0, set_app, set_lt, take_app, take_self, at_set, vw_t, vw_o, tree_frz, tree_lst, tree_dic, fz_t, fz_o, fzs_nil, fzs_cons, nrm_t, nrm_o, turnF_nx, turnF_cont, turnF_brk, turnF_ret, turnF_exc, stands_nil, stands_cons, wat_t, wat_o, s0, s1, s2, s3, w1, w2, bindT, sets, trB, truth, pre2, pre3, mid3, isL, isCmp, putO, slc, inC, wipeE, seq?, atI_0, atI_1, atI_2, atI_m, ixN_0, ixN_1, scalT, T.flat, teq, eqT, eqD, below, T.ty, List.map_cons, List.map_nil, List.cons_append, List.nil_append, List.append_assoc, List.append_nil, List.length_cons, List.length_nil, List.length_append, List.length_set, List.length_map, List.getElem?_cons_zero, List.getElem?_cons_succ, List.set_cons_zero, List.set_cons_succ, List.set_set, List.replicate_succ, List.replicate_zero, Option.map_some, Option.map_none, if_true, if_false, ite_true, ite_false, if_false_right, Bool.false_eq_true, decide_eq_true_eq, Bool.and_eq_true, Bool.or_eq_true, Bool.true_or, Bool.false_or, Bool.or_false, Bool.true_and, Bool.and_true, Bool.and_false, Bool.false_and, Bool.not_true, Bool.not_false, Nat.add_zero, Nat.zero_add, true_and, and_true, eq_self, reduceCtorEq, and_self, Int.reduceNeg, Int.reduceEq, Int.reduceBEq, Int.reduceLT, Int.reduceLE, Int.reducePow, Int.reduceToNat, Int.reduceAdd, Int.reduceMul, Int.reduceMod, Int.reduceDiv, Int.reduceSub, Nat.reduceAdd, Nat.reduceSub, Nat.reduceLT, Nat.reduceLeDiff, Nat.reducePow, true_or, or_true, or_false, false_or, beq_iff_eq, RV.t.injEq, RV.o.injEq, T.int.injEq, T.str.injEq, T.bl.injEq, Option.some.injEq, ge_iff_le, gt_iff_lt, exists_eq_left', exists_eq_left, List.any_cons, List.any_nil, List.contains_cons, List.contains_nil, exB, String.reduceBEq, String.reduceEq, beq_self_eq_true, bne_self_eq_false, Bool.not_eq_true, Bool.not_eq_false, Tabs.G, List.lookup_cons, List.lookup_nil]) h (by decide) (by decide)) fun v S' ⟨r, c2, m2, e1, r0, r1, h2, e2⟩ => ?_
  subst e1 e2
  obtain ⟨y, ey, hy⟩ := at11 (a0 := .int (-1)) (a1 := .int n) (a2 := .int (n + 7)) (a3 := .int (10 ^ 30 - 1)) (a4 := .int (1 - 10 ^ 30)) (a5 := .bl true) (a6 := .bl false) (a7 := .non) (a8 := .str (Str.ofString "0")) (a9 := .lst [.int 0]) (a10 := .tup [.int 0]) r0 r1
  simp -implicitDefEqProofs only [Int.reducePow, Int.reduceSub] at ey hy
  simp -implicitDefEqProofs only [lp, ey, wp_ok, wp_exc, wp_fail, wp_bind, wp_liftE, wp_noX, wp_ite, wp_var, wp_cst, wp_glb, wp_op0, wp_op1, wp_op2, wp_op3, wp_and, wp_or, wp_not, wp_iteE, wp_chain, wp_call, wp_tup, wp_lst, wp_dct, wp_comp, wp_nil, wp_cons, wt_and, wt_or, wt_not, wt_op2, wt_chain, wt_var, wt_cst, wt_op1, wt_call, wi_one, wi_two, asB_b, ws_ex, ws_asg, ws_sset, ws_ret, ws_ret0, ws_ite, ws_for, ws_whl, ws_raise, ws_try, tryP_nx, tryP_ret, tryP_exc, ws_cont, ws_brk, wb_nil, wb_cons, seqF_nx, seqF_ret, seqF_brk, seqF_cont, seqF_exc, endP_nx, endP_ret, endP_exc, fin_tree, fin_app, fin_app0, at_app0, at_app, at_lt, set_app0, set_app, set_lt, take_app, take_self, at_set, vw_t, vw_o, tree_frz, tree_lst, tree_dic, fz_t, fz_o, fzs_nil, fzs_cons, nrm_t, nrm_o, turnF_nx, turnF_cont, turnF_brk, turnF_ret, turnF_exc, stands_nil, stands_cons, wat_t, wat_o, s0, s1, s2, s3, w1, w2, bindT, sets, trB, truth, pre2, pre3, mid3, isL, isCmp, putO, slc, inC, wipeE, seq?, atI_0, atI_1, atI_2, atI_m, ixN_0, ixN_1, scalT, T.flat, teq, eqT, eqD, below, T.ty, List.map_cons, List.map_nil, List.cons_append, List.nil_append, List.append_assoc, List.append_nil, List.length_cons, List.length_nil, List.length_append, List.length_set, List.length_map, List.getElem?_cons_zero, List.getElem?_cons_succ, List.set_cons_zero, List.set_cons_succ, List.set_set, List.replicate_succ, List.replicate_zero, Option.map_some, Option.map_none, if_true, if_false, ite_true, ite_false, if_false_right, Bool.false_eq_true, decide_eq_true_eq, Bool.and_eq_true, Bool.or_eq_true, Bool.true_or, Bool.false_or, Bool.or_false, Bool.true_and, Bool.and_true, Bool.and_false, Bool.false_and, Bool.not_true, Bool.not_false, Nat.add_zero, Nat.zero_add, true_and, and_true, eq_self, reduceCtorEq, and_self, Int.reduceNeg, Int.reduceEq, Int.reduceBEq, Int.reduceLT, Int.reduceLE, Int.reducePow, Int.reduceToNat, Int.reduceAdd, Int.reduceMul, Int.reduceMod, Int.reduceDiv, Int.reduceSub, Nat.reduceAdd, Nat.reduceSub, Nat.reduceLT, Nat.reduceLeDiff, Nat.reducePow, true_or, or_true, or_false, false_or, beq_iff_eq, RV.t.injEq, RV.o.injEq, T.int.injEq, T.str.injEq, T.bl.injEq, Option.some.injEq, ge_iff_le, gt_iff_lt, exists_eq_left', exists_eq_left, List.any_cons, List.any_nil, List.contains_cons, List.contains_nil, exB, String.reduceBEq, String.reduceEq, beq_self_eq_true, bne_self_eq_false, Bool.not_eq_true, Bool.not_eq_false, Tabs.G, List.lookup_cons, List.lookup_nil]
  rcases hy with rfl | rfl | rfl | rfl | rfl | rfl | rfl | rfl | rfl | rfl | rfl
  all_goals first
    | exact ⟨_, c2, m2, rfl, trivial, decide_eq_false (by omega), h2, rfl⟩
    | exact ⟨_, c2, m2, rfl, trivial, rfl, h2, rfl⟩
end K04

set_option maxRecDepth 100000
set_option maxHeartbeats 1000000
namespace K04
open PySem PV L2
theorem low_st {s : Stamp} (h : StOk s) (n : Nat) : low (n + 1) (stT s) = true := by
  refine low_tup fun x hx => ?_
  simp -implicitDefEqProofs only [List.mem_cons, List.not_mem_nil, or_false] at hx
  rcases hx with rfl | rfl | rfl
  · cases n <;> (rw [low]; exact h.1.1)
  · cases n <;> rw [low]
  · rcases h.2 with e | e <;> rw [e] <;> cases n <;> (rw [low]; decide +kernel)
theorem low_sts {l : List Stamp} (h : ∀ s ∈ l, StOk s) (n : Nat) : low (n + 2) (.lst (l.map stT)) = true := low_lst fun x hx => by
  obtain ⟨s, hs, rfl⟩ := List.mem_map.mp hx
  exact low_st (h s hs) n
theorem put_mem {l : List Stamp} {p : Nat} {s t : Stamp} (h : t ∈ put l p s) : t ∈ l ∨ t = s := by
  unfold put at h
  rcases List.mem_append.mp h with h | h
  · exact .inl (List.mem_of_mem_take h)
  · rcases List.mem_cons.mp h with h | h
    · exact .inr h
    · exact .inl (List.mem_of_mem_drop h)
theorem out_mem {l : List Stamp} {p : Nat} {t : Stamp} (h : t ∈ out l p) : t ∈ l := by
  unfold out at h
  rcases List.mem_append.mp h with h | h
  · exact List.mem_of_mem_take h
  · exact List.mem_of_mem_drop h
/-- a card that is kept, with its stamps -/
def hT (l : List Stamp) : T := .tup [.tup (l.map stT), .lst (l.map stT)]
def bodyB : Ss := match dropS 4 f_law.body with
  | .cons (.for_ _ _ b) _ => b
  | _ => .nil
def tail3 : Ss := dropS 3 bodyB
theorem tail3_ok {k : Nat} {B : Store} {j h : Nat} {l : List Stamp} {hs : List (List Stamp)} {a0 a1 a5 a6 a7 a8 a9 a10 a11 : Option RV} {PF : Fl × En → Store → Prop} {E : Exc → Store → Prop}
    (hj : B[j]? = some (.lst (l.map stT))) (hh : B[h]? = some (.lst (hs.map hT))) (hjh : h ≠ j) (hl : l.length ≤ 24) (hst : ∀ s ∈ l, StOk s) (hhs : hs.length < 50)
    (hP : ∀ env S' g, env = [a0, a1, some (.t (.tup (l.map stT))), some (.o j), some (.o h), a5, a6, a7, a8, a9, a10, a11] → S' = B.set h (.lst ((hs ++ [l]).map hT)) ++ g → PF (.nx, env) S') :
    (exes tabs.G (callF tabs.G tabs.Δ k) tail3 [a0, a1, some (.t (.tup (l.map stT))), some (.o j), some (.o h), a5, a6, a7, a8, a9, a10, a11] B).wp PF E := by
  have lj := lt_of_at hj
  have lh := lt_of_at hh
  have z2 : 2 ≤ sizeLine := zle (by decide)
  have hlz : l.length ≤ sizeLine := zle (by omega)
  have hhz : hs.length < sizeLine := small1000 (by omega)
  have ll := eqT_same (low_sts hst 58)
  have e1 : hT l = T.tup [T.tup (l.map stT), T.lst (l.map stT)] := rfl
  have ty : (T.tup (l.map stT)).ty = "tuple" := rfl
  simp -implicitDefEqProofs only [tail3, bodyB, dropS, f_law, ty, hj, hh, lj, lh, hjh, hlz, hhz, z2, ll, ← e1, List.length_map, at_set_ne, ne_eq, not_false_eq_true, wp_ok, wp_exc, wp_fail, wp_bind, wp_liftE, wp_noX, wp_ite, wp_var, wp_cst, wp_glb, wp_op0, wp_op1, wp_op2, wp_op3, wp_and, wp_or, wp_not, wp_iteE, wp_chain, wp_call, wp_tup, wp_lst, wp_dct, wp_comp, wp_nil, wp_cons, wt_and, wt_or, wt_not, wt_op2, wt_chain, wt_var, wt_cst, wt_op1, wt_call, wi_one, wi_two, asB_b, ws_ex, ws_asg, ws_sset, ws_ret, ws_ret0, ws_ite, ws_for, ws_whl, ws_raise, ws_try, tryP_nx, tryP_ret, tryP_exc, ws_cont, ws_brk, wb_nil, wb_cons, seqF_nx, seqF_ret, seqF_brk, seqF_cont, seqF_exc, endP_nx, endP_ret, endP_exc, fin_tree, fin_app, fin_app0, at_app0, at_app, at_lt, set_app0, set_app, set_lt, take_app, take_self, at_set, vw_t, vw_o, tree_frz, tree_lst, tree_dic, fz_t, fz_o, fzs_nil, fzs_cons, nrm_t, nrm_o, turnF_nx, turnF_cont, turnF_brk, turnF_ret, turnF_exc, stands_nil, stands_cons, wat_t, wat_o, s0, s1, s2, s3, w1, w2, bindT, sets, trB, truth, pre2, pre3, mid3, isL, isCmp, putO, slc, inC, wipeE, seq?, atI_0, atI_1, atI_2, atI_m, ixN_0, ixN_1, T.flat, teq, below, List.map_cons, List.map_nil, List.cons_append, List.nil_append, List.append_assoc, List.append_nil, List.length_cons, List.length_nil, List.length_append, List.length_set, List.length_map, List.getElem?_cons_zero, List.getElem?_cons_succ, List.set_cons_zero, List.set_cons_succ, List.set_set, List.replicate_succ, List.replicate_zero, Option.map_some, Option.map_none, if_true, if_false, ite_true, ite_false, if_false_right, Bool.false_eq_true, decide_eq_true_eq, Bool.and_eq_true, Bool.or_eq_true, Bool.true_or, Bool.false_or, Bool.or_false, Bool.true_and, Bool.and_true, Bool.and_false, Bool.false_and, Bool.not_true, Bool.not_false, Nat.add_zero, Nat.zero_add, true_and, and_true, eq_self, reduceCtorEq, and_self, Int.reduceNeg, Int.reduceEq, Int.reduceBEq, Int.reduceLT, Int.reduceLE, Int.reducePow, Int.reduceToNat, Int.reduceAdd, Int.reduceMul, Int.reduceMod, Int.reduceDiv, Int.reduceSub, Nat.reduceAdd, Nat.reduceSub, Nat.reduceLT, Nat.reduceLeDiff, Nat.reducePow, true_or, or_true, or_false, false_or, beq_iff_eq, RV.t.injEq, RV.o.injEq, T.int.injEq, T.str.injEq, T.bl.injEq, Option.some.injEq, ge_iff_le, gt_iff_lt, exists_eq_left', exists_eq_left, List.any_cons, List.any_nil, List.contains_cons, List.contains_nil, exB, String.reduceBEq, String.reduceEq, beq_self_eq_true, bne_self_eq_false, Bool.not_eq_true, Bool.not_eq_false, Tabs.G, List.lookup_cons, List.lookup_nil, Nat.add_assoc]
  exact hP _ _ _ rfl (by rw [List.map_append]; rfl)
end K04

set_option maxRecDepth 100000
set_option maxHeartbeats 1000000
namespace K04
open PySem PV L2
def iteA : Ss → Ss
  | .cons (.ite _ a _) _ => a
  | _ => .nil
def iteB : Ss → Ss
  | .cons (.ite _ _ b) _ => b
  | _ => .nil
def foldI (s a b r : Ss) : Ss := match s with
  | .cons (.ite c _ _) _ => .cons (.ite c a b) r
  | _ => .nil
def st3 : Ss := dropS 2 bodyB
def inner : Ss := iteB st3
def popB : Ss := iteA st3
def oddB : Ss := iteA inner
def putB : Ss := iteB inner
theorem body_eq : bodyB = joinS 2 bodyB (foldI st3 popB (foldI inner oddB putB .nil) tail3) := rfl
section
variable {k : Nat} {B : Store} {p q j h : Nat} {c m : Int} {ss : List Str} {l : List Stamp} {hs : List (List Stamp)} {a0 a5 a7 a8 a9 a10 a11 : Option RV} {PF : Fl × En → Store → Prop} {E : Exc → Store → Prop}
theorem ix_at {n : Nat} {o : Nat} (h : o < n) : ixN n (o : Int) = some o := by
  unfold ixN
  rw [if_pos (by omega), if_pos (by omega), Int.toNat_natCast]
theorem pop_br (hp : B[p]? = some (.lst [.int c, .int m])) (hpen : PenOk c m) (hq : B[q]? = some (.lst (ss.map T.str))) (hj : B[j]? = some (.lst (l.map stT))) (hh : B[h]? = some (.lst (hs.map hT))) (hpq : p ≠ q) (hpj : p ≠ j) (hph : p ≠ h) (hjh : j ≠ h) (hjq : j ≠ q) (hl : l.length ≤ 24) (hst : ∀ s ∈ l, StOk s) (hne : 0 < l.length)
    (hP : ∀ (l' : List Stamp) (b10 b11 : Option RV) (S' : Store), l'.length ≤ 24 → (∀ s ∈ l', StOk s) → S'[q]? = some (.lst (ss.map T.str)) → S'[j]? = some (.lst (l'.map stT)) → S'[h]? = some (.lst (hs.map hT)) →
      PF (.nx, [a0, some (.o q), some (.t (.tup (l'.map stT))), some (.o j), some (.o h), a5, some (.o p), a7, a8, a9, b10, b11]) S') :
    (exes tabs.G (callF tabs.G tabs.Δ (k + 4)) popB [a0, some (.o q), some (.t (.tup (l.map stT))), some (.o j), some (.o h), a5, some (.o p), a7, a8, a9, a10, a11] B).wp PF E := by
  have lp := lt_of_at hp
  have lq := lt_of_at hq
  have lj := lt_of_at hj
  have lh := lt_of_at hh
  have hlz : l.length ≤ sizeLine := zle (by omega)
  simp -implicitDefEqProofs only [popB, iteA, st3, bodyB, dropS, f_law, hp, hj, hlz, List.length_map, wp_ok, wp_exc, wp_fail, wp_bind, wp_liftE, wp_noX, wp_ite, wp_var, wp_cst, wp_glb, wp_op0, wp_op1, wp_op2, wp_op3, wp_and, wp_or, wp_not, wp_iteE, wp_chain, wp_call, wp_tup, wp_lst, wp_dct, wp_comp, wp_nil, wp_cons, wt_and, wt_or, wt_not, wt_op2, wt_chain, wt_var, wt_cst, wt_op1, wt_call, wi_one, wi_two, asB_b, ws_ex, ws_asg, ws_sset, ws_ret, ws_ret0, ws_ite, ws_for, ws_whl, ws_raise, ws_try, tryP_nx, tryP_ret, tryP_exc, ws_cont, ws_brk, wb_nil, wb_cons, seqF_nx, seqF_ret, seqF_brk, seqF_cont, seqF_exc, endP_nx, endP_ret, endP_exc, fin_tree, fin_app, fin_app0, at_app0, at_app, at_lt, set_app0, set_app, set_lt, take_app, take_self, at_set, vw_t, vw_o, tree_frz, tree_lst, tree_dic, fz_t, fz_o, fzs_nil, fzs_cons, nrm_t, nrm_o, turnF_nx, turnF_cont, turnF_brk, turnF_ret, turnF_exc, stands_nil, stands_cons, wat_t, wat_o, s0, s1, s2, s3, w1, w2, bindT, sets, trB, truth, pre2, pre3, mid3, isL, isCmp, putO, slc, inC, wipeE, seq?, atI_0, atI_1, atI_2, atI_m, ixN_0, ixN_1, T.flat, teq, below, List.map_cons, List.map_nil, List.cons_append, List.nil_append, List.append_assoc, List.append_nil, List.length_cons, List.length_nil, List.length_append, List.length_set, List.length_map, List.getElem?_cons_zero, List.getElem?_cons_succ, List.set_cons_zero, List.set_cons_succ, List.set_set, List.replicate_succ, List.replicate_zero, Option.map_some, Option.map_none, if_true, if_false, ite_true, ite_false, if_false_right, Bool.false_eq_true, decide_eq_true_eq, Bool.and_eq_true, Bool.or_eq_true, Bool.true_or, Bool.false_or, Bool.or_false, Bool.true_and, Bool.and_true, Bool.and_false, Bool.false_and, Bool.not_true, Bool.not_false, Nat.add_zero, Nat.zero_add, true_and, and_true, eq_self, reduceCtorEq, and_self, Int.reduceNeg, Int.reduceEq, Int.reduceBEq, Int.reduceLT, Int.reduceLE, Int.reducePow, Int.reduceToNat, Int.reduceAdd, Int.reduceMul, Int.reduceMod, Int.reduceDiv, Int.reduceSub, Nat.reduceAdd, Nat.reduceSub, Nat.reduceLT, Nat.reduceLeDiff, Nat.reducePow, true_or, or_true, or_false, false_or, beq_iff_eq, RV.t.injEq, RV.o.injEq, T.int.injEq, T.str.injEq, T.bl.injEq, Option.some.injEq, ge_iff_le, gt_iff_lt, exists_eq_left', exists_eq_left, List.any_cons, List.any_nil, List.contains_cons, List.contains_nil, exB, String.reduceBEq, String.reduceEq, beq_self_eq_true, bne_self_eq_false, Bool.not_eq_true, Bool.not_eq_false, Tabs.G, List.lookup_cons, List.lookup_nil, Nat.add_assoc]
  refine wp_use (take_ok hp hpen (by omega) (by omega)) fun v S' ⟨o, c1, m1, e1, o0, o1, h1, e2⟩ => ?_
  subst e1 e2
  obtain ⟨o, rfl⟩ : ∃ o' : Nat, o = o' := ⟨o.toNat, by omega⟩
  have ho : o < l.length := by omega
  simp -implicitDefEqProofs only [lp, lq, lj, lh, hpq, hpj, hph, hjh, hjq, at_set_ne, hq, hj, hh, ix_at ho, List.length_map, List.getElem?_map, List.getElem?_eq_getElem ho, Option.map_some, ne_eq, not_false_eq_true, wp_ok, wp_exc, wp_fail, wp_bind, wp_liftE, wp_noX, wp_ite, wp_var, wp_cst, wp_glb, wp_op0, wp_op1, wp_op2, wp_op3, wp_and, wp_or, wp_not, wp_iteE, wp_chain, wp_call, wp_tup, wp_lst, wp_dct, wp_comp, wp_nil, wp_cons, wt_and, wt_or, wt_not, wt_op2, wt_chain, wt_var, wt_cst, wt_op1, wt_call, wi_one, wi_two, asB_b, ws_ex, ws_asg, ws_sset, ws_ret, ws_ret0, ws_ite, ws_for, ws_whl, ws_raise, ws_try, tryP_nx, tryP_ret, tryP_exc, ws_cont, ws_brk, wb_nil, wb_cons, seqF_nx, seqF_ret, seqF_brk, seqF_cont, seqF_exc, endP_nx, endP_ret, endP_exc, fin_tree, fin_app, fin_app0, at_app0, at_app, at_lt, set_app0, set_app, set_lt, take_app, take_self, at_set, vw_t, vw_o, tree_frz, tree_lst, tree_dic, fz_t, fz_o, fzs_nil, fzs_cons, nrm_t, nrm_o, turnF_nx, turnF_cont, turnF_brk, turnF_ret, turnF_exc, stands_nil, stands_cons, wat_t, wat_o, s0, s1, s2, s3, w1, w2, bindT, sets, trB, truth, pre2, pre3, mid3, isL, isCmp, putO, slc, inC, wipeE, seq?, atI_0, atI_1, atI_2, atI_m, ixN_0, ixN_1, T.flat, teq, below, List.map_cons, List.map_nil, List.cons_append, List.nil_append, List.append_assoc, List.append_nil, List.length_cons, List.length_nil, List.length_append, List.length_set, List.length_map, List.getElem?_cons_zero, List.getElem?_cons_succ, List.set_cons_zero, List.set_cons_succ, List.set_set, List.replicate_succ, List.replicate_zero, Option.map_some, Option.map_none, if_true, if_false, ite_true, ite_false, if_false_right, Bool.false_eq_true, decide_eq_true_eq, Bool.and_eq_true, Bool.or_eq_true, Bool.true_or, Bool.false_or, Bool.or_false, Bool.true_and, Bool.and_true, Bool.and_false, Bool.false_and, Bool.not_true, Bool.not_false, Nat.add_zero, Nat.zero_add, true_and, and_true, eq_self, reduceCtorEq, and_self, Int.reduceNeg, Int.reduceEq, Int.reduceBEq, Int.reduceLT, Int.reduceLE, Int.reducePow, Int.reduceToNat, Int.reduceAdd, Int.reduceMul, Int.reduceMod, Int.reduceDiv, Int.reduceSub, Nat.reduceAdd, Nat.reduceSub, Nat.reduceLT, Nat.reduceLeDiff, Nat.reducePow, true_or, or_true, or_false, false_or, beq_iff_eq, RV.t.injEq, RV.o.injEq, T.int.injEq, T.str.injEq, T.bl.injEq, Option.some.injEq, ge_iff_le, gt_iff_lt, exists_eq_left', exists_eq_left, List.any_cons, List.any_nil, List.contains_cons, List.contains_nil, exB, String.reduceBEq, String.reduceEq, beq_self_eq_true, bne_self_eq_false, Bool.not_eq_true, Bool.not_eq_false, Tabs.G, List.lookup_cons, List.lookup_nil, Nat.add_assoc]
  refine ⟨⟨by omega, by omega⟩, ?_⟩
  refine wp_mono (out_any (x := .int o) trivial hl) (fun v S' ⟨h2, e1, e2⟩ => ?_) (fun e S' ⟨e1, e2, e3⟩ => ?_)
  · subst e1 e2
    refine hP (out l (numT (.int o)).toNat) _ _ _ ?_ (fun s hs' => hst s (out_mem hs')) ?_ ?_ ?_
    · unfold out
      rw [List.length_append, List.length_take, List.length_drop]
      omega
    · simp -implicitDefEqProofs only [hpq, hjq, at_set_ne, hq, ne_eq, not_false_eq_true]
    · rw [List.getElem?_set_self (by rw [List.length_set]; exact lj), List.eraseIdx_eq_take_drop_succ, ← List.map_take, ← List.map_drop, ← List.map_append]
      rfl
    · simp -implicitDefEqProofs only [hph, hjh, at_set_ne, hh, ne_eq, not_false_eq_true]
  · rw [show isP l.length (.int (o : Int)) = true from decide_eq_true (by omega)] at e3
    cases e3
theorem odd_br (hp : B[p]? = some (.lst [.int c, .int m])) (hpen : PenOk c m) (hq : B[q]? = some (.lst (ss.map T.str))) (hj : B[j]? = some (.lst (l.map stT))) (hh : B[h]? = some (.lst (hs.map hT))) (hpq : p ≠ q) (hpj : p ≠ j) (hph : p ≠ h) (hl : l.length ≤ 24) (hst : ∀ s ∈ l, StOk s)
    (hP : ∀ (l' : List Stamp) (b10 b11 : Option RV) (S' : Store), l'.length ≤ 24 → (∀ s ∈ l', StOk s) → S'[q]? = some (.lst (ss.map T.str)) → S'[j]? = some (.lst (l'.map stT)) → S'[h]? = some (.lst (hs.map hT)) →
      PF (.nx, [a0, some (.o q), some (.t (.tup (l'.map stT))), some (.o j), some (.o h), a5, some (.o p), a7, a8, a9, b10, b11]) S') :
    (exes tabs.G (callF tabs.G tabs.Δ (k + 4)) oddB [a0, some (.o q), some (.t (.tup (l.map stT))), some (.o j), some (.o h), a5, some (.o p), a7, a8, a9, a10, a11] B).wp PF E := by
  have lp := lt_of_at hp
  have hlz : l.length ≤ sizeLine := zle (by omega)
  simp -implicitDefEqProofs only [oddB, inner, iteA, iteB, st3, bodyB, dropS, f_law, hp, hj, hlz, List.length_map, wp_ok, wp_exc, wp_fail, wp_bind, wp_liftE, wp_noX, wp_ite, wp_var, wp_cst, wp_glb, wp_op0, wp_op1, wp_op2, wp_op3, wp_and, wp_or, wp_not, wp_iteE, wp_chain, wp_call, wp_tup, wp_lst, wp_dct, wp_comp, wp_nil, wp_cons, wt_and, wt_or, wt_not, wt_op2, wt_chain, wt_var, wt_cst, wt_op1, wt_call, wi_one, wi_two, asB_b, ws_ex, ws_asg, ws_sset, ws_ret, ws_ret0, ws_ite, ws_for, ws_whl, ws_raise, ws_try, tryP_nx, tryP_ret, tryP_exc, ws_cont, ws_brk, wb_nil, wb_cons, seqF_nx, seqF_ret, seqF_brk, seqF_cont, seqF_exc, endP_nx, endP_ret, endP_exc, fin_tree, fin_app, fin_app0, at_app0, at_app, at_lt, set_app0, set_app, set_lt, take_app, take_self, at_set, vw_t, vw_o, tree_frz, tree_lst, tree_dic, fz_t, fz_o, fzs_nil, fzs_cons, nrm_t, nrm_o, turnF_nx, turnF_cont, turnF_brk, turnF_ret, turnF_exc, stands_nil, stands_cons, wat_t, wat_o, s0, s1, s2, s3, w1, w2, bindT, sets, trB, truth, pre2, pre3, mid3, isL, isCmp, putO, slc, inC, wipeE, seq?, atI_0, atI_1, atI_2, atI_m, ixN_0, ixN_1, T.flat, teq, below, List.map_cons, List.map_nil, List.cons_append, List.nil_append, List.append_assoc, List.append_nil, List.length_cons, List.length_nil, List.length_append, List.length_set, List.length_map, List.getElem?_cons_zero, List.getElem?_cons_succ, List.set_cons_zero, List.set_cons_succ, List.set_set, List.replicate_succ, List.replicate_zero, Option.map_some, Option.map_none, if_true, if_false, ite_true, ite_false, if_false_right, Bool.false_eq_true, decide_eq_true_eq, Bool.and_eq_true, Bool.or_eq_true, Bool.true_or, Bool.false_or, Bool.or_false, Bool.true_and, Bool.and_true, Bool.and_false, Bool.false_and, Bool.not_true, Bool.not_false, Nat.add_zero, Nat.zero_add, true_and, and_true, eq_self, reduceCtorEq, and_self, Int.reduceNeg, Int.reduceEq, Int.reduceBEq, Int.reduceLT, Int.reduceLE, Int.reducePow, Int.reduceToNat, Int.reduceAdd, Int.reduceMul, Int.reduceMod, Int.reduceDiv, Int.reduceSub, Nat.reduceAdd, Nat.reduceSub, Nat.reduceLT, Nat.reduceLeDiff, Nat.reducePow, true_or, or_true, or_false, false_or, beq_iff_eq, RV.t.injEq, RV.o.injEq, T.int.injEq, T.str.injEq, T.bl.injEq, Option.some.injEq, ge_iff_le, gt_iff_lt, exists_eq_left', exists_eq_left, List.any_cons, List.any_nil, List.contains_cons, List.contains_nil, exB, String.reduceBEq, String.reduceEq, beq_self_eq_true, bne_self_eq_false, Bool.not_eq_true, Bool.not_eq_false, Tabs.G, List.lookup_cons, List.lookup_nil, Nat.add_assoc]
  refine wp_use (odd_ok hp hpen hl) fun v S' ⟨x, c1, m1, e1, hx, ho, h1, e2⟩ => ?_
  subst e1 e2
  refine wp_use (told_odd hx hl ho) fun v S' ⟨e1, e2⟩ => ?_
  subst e1 e2
  have es : eqT (T.str (Str.ofString "place")) (T.str (Str.ofString "place")) = some true := by decide +kernel
  simp -implicitDefEqProofs only [es, wp_ok, wp_exc, wp_fail, wp_bind, wp_liftE, wp_noX, wp_ite, wp_var, wp_cst, wp_glb, wp_op0, wp_op1, wp_op2, wp_op3, wp_and, wp_or, wp_not, wp_iteE, wp_chain, wp_call, wp_tup, wp_lst, wp_dct, wp_comp, wp_nil, wp_cons, wt_and, wt_or, wt_not, wt_op2, wt_chain, wt_var, wt_cst, wt_op1, wt_call, wi_one, wi_two, asB_b, ws_ex, ws_asg, ws_sset, ws_ret, ws_ret0, ws_ite, ws_for, ws_whl, ws_raise, ws_try, tryP_nx, tryP_ret, tryP_exc, ws_cont, ws_brk, wb_nil, wb_cons, seqF_nx, seqF_ret, seqF_brk, seqF_cont, seqF_exc, endP_nx, endP_ret, endP_exc, fin_tree, fin_app, fin_app0, at_app0, at_app, at_lt, set_app0, set_app, set_lt, take_app, take_self, at_set, vw_t, vw_o, tree_frz, tree_lst, tree_dic, fz_t, fz_o, fzs_nil, fzs_cons, nrm_t, nrm_o, turnF_nx, turnF_cont, turnF_brk, turnF_ret, turnF_exc, stands_nil, stands_cons, wat_t, wat_o, s0, s1, s2, s3, w1, w2, bindT, sets, trB, truth, pre2, pre3, mid3, isL, isCmp, putO, slc, inC, wipeE, seq?, atI_0, atI_1, atI_2, atI_m, ixN_0, ixN_1, T.flat, teq, below, List.map_cons, List.map_nil, List.cons_append, List.nil_append, List.append_assoc, List.append_nil, List.length_cons, List.length_nil, List.length_append, List.length_set, List.length_map, List.getElem?_cons_zero, List.getElem?_cons_succ, List.set_cons_zero, List.set_cons_succ, List.set_set, List.replicate_succ, List.replicate_zero, Option.map_some, Option.map_none, if_true, if_false, ite_true, ite_false, if_false_right, Bool.false_eq_true, decide_eq_true_eq, Bool.and_eq_true, Bool.or_eq_true, Bool.true_or, Bool.false_or, Bool.or_false, Bool.true_and, Bool.and_true, Bool.and_false, Bool.false_and, Bool.not_true, Bool.not_false, Nat.add_zero, Nat.zero_add, true_and, and_true, eq_self, reduceCtorEq, and_self, Int.reduceNeg, Int.reduceEq, Int.reduceBEq, Int.reduceLT, Int.reduceLE, Int.reducePow, Int.reduceToNat, Int.reduceAdd, Int.reduceMul, Int.reduceMod, Int.reduceDiv, Int.reduceSub, Nat.reduceAdd, Nat.reduceSub, Nat.reduceLT, Nat.reduceLeDiff, Nat.reducePow, true_or, or_true, or_false, false_or, beq_iff_eq, RV.t.injEq, RV.o.injEq, T.int.injEq, T.str.injEq, T.bl.injEq, Option.some.injEq, ge_iff_le, gt_iff_lt, exists_eq_left', exists_eq_left, List.any_cons, List.any_nil, List.contains_cons, List.contains_nil, exB, String.reduceBEq, String.reduceEq, beq_self_eq_true, bne_self_eq_false, Bool.not_eq_true, Bool.not_eq_false, Tabs.G, List.lookup_cons, List.lookup_nil, Nat.add_assoc]
  exact hP l _ _ _ hl hst (by simp -implicitDefEqProofs only [hpq, at_set_ne, hq, ne_eq, not_false_eq_true]) (by simp -implicitDefEqProofs only [hpj, at_set_ne, hj, ne_eq, not_false_eq_true]) (by simp -implicitDefEqProofs only [hph, at_set_ne, hh, ne_eq, not_false_eq_true])
theorem put_br (hp : B[p]? = some (.lst [.int c, .int m])) (hpen : PenOk c m) (hq : B[q]? = some (.lst (ss.map T.str))) (hj : B[j]? = some (.lst (l.map stT))) (hh : B[h]? = some (.lst (hs.map hT))) (hpq : p ≠ q) (hpj : p ≠ j) (hph : p ≠ h) (hjh : j ≠ h) (hjq : j ≠ q) (hl : l.length < 24) (hst : ∀ s ∈ l, StOk s) (hss : ∀ s ∈ ss, Tx 30 s) (h0 : ss.length = 4)
    (hP : ∀ (l' : List Stamp) (b10 b11 : Option RV) (S' : Store), l'.length ≤ 24 → (∀ s ∈ l', StOk s) → S'[q]? = some (.lst (ss.map T.str)) → S'[j]? = some (.lst (l'.map stT)) → S'[h]? = some (.lst (hs.map hT)) →
      PF (.nx, [a0, some (.o q), some (.t (.tup (l'.map stT))), some (.o j), some (.o h), a5, some (.o p), a7, a8, a9, b10, b11]) S') :
    (exes tabs.G (callF tabs.G tabs.Δ (k + 4)) putB [a0, some (.o q), some (.t (.tup (l.map stT))), some (.o j), some (.o h), a5, some (.o p), a7, a8, a9, a10, a11] B).wp PF E := by
  have lp := lt_of_at hp
  have lq := lt_of_at hq
  have lj := lt_of_at hj
  have lh := lt_of_at hh
  have z2 : 2 ≤ sizeLine := zle (by decide)
  have z3 : 3 ≤ sizeLine := zle (by decide)
  have hlz : l.length ≤ sizeLine := zle (by omega)
  have hlz2 : l.length < sizeLine := small1000 (by omega)
  simp -implicitDefEqProofs only [putB, inner, iteA, iteB, st3, bodyB, dropS, f_law, hp, hj, hlz, List.length_map, wp_ok, wp_exc, wp_fail, wp_bind, wp_liftE, wp_noX, wp_ite, wp_var, wp_cst, wp_glb, wp_op0, wp_op1, wp_op2, wp_op3, wp_and, wp_or, wp_not, wp_iteE, wp_chain, wp_call, wp_tup, wp_lst, wp_dct, wp_comp, wp_nil, wp_cons, wt_and, wt_or, wt_not, wt_op2, wt_chain, wt_var, wt_cst, wt_op1, wt_call, wi_one, wi_two, asB_b, ws_ex, ws_asg, ws_sset, ws_ret, ws_ret0, ws_ite, ws_for, ws_whl, ws_raise, ws_try, tryP_nx, tryP_ret, tryP_exc, ws_cont, ws_brk, wb_nil, wb_cons, seqF_nx, seqF_ret, seqF_brk, seqF_cont, seqF_exc, endP_nx, endP_ret, endP_exc, fin_tree, fin_app, fin_app0, at_app0, at_app, at_lt, set_app0, set_app, set_lt, take_app, take_self, at_set, vw_t, vw_o, tree_frz, tree_lst, tree_dic, fz_t, fz_o, fzs_nil, fzs_cons, nrm_t, nrm_o, turnF_nx, turnF_cont, turnF_brk, turnF_ret, turnF_exc, stands_nil, stands_cons, wat_t, wat_o, s0, s1, s2, s3, w1, w2, bindT, sets, trB, truth, pre2, pre3, mid3, isL, isCmp, putO, slc, inC, wipeE, seq?, atI_0, atI_1, atI_2, atI_m, ixN_0, ixN_1, T.flat, teq, below, List.map_cons, List.map_nil, List.cons_append, List.nil_append, List.append_assoc, List.append_nil, List.length_cons, List.length_nil, List.length_append, List.length_set, List.length_map, List.getElem?_cons_zero, List.getElem?_cons_succ, List.set_cons_zero, List.set_cons_succ, List.set_set, List.replicate_succ, List.replicate_zero, Option.map_some, Option.map_none, if_true, if_false, ite_true, ite_false, if_false_right, Bool.false_eq_true, decide_eq_true_eq, Bool.and_eq_true, Bool.or_eq_true, Bool.true_or, Bool.false_or, Bool.or_false, Bool.true_and, Bool.and_true, Bool.and_false, Bool.false_and, Bool.not_true, Bool.not_false, Nat.add_zero, Nat.zero_add, true_and, and_true, eq_self, reduceCtorEq, and_self, Int.reduceNeg, Int.reduceEq, Int.reduceBEq, Int.reduceLT, Int.reduceLE, Int.reducePow, Int.reduceToNat, Int.reduceAdd, Int.reduceMul, Int.reduceMod, Int.reduceDiv, Int.reduceSub, Nat.reduceAdd, Nat.reduceSub, Nat.reduceLT, Nat.reduceLeDiff, Nat.reducePow, true_or, or_true, or_false, false_or, beq_iff_eq, RV.t.injEq, RV.o.injEq, T.int.injEq, T.str.injEq, T.bl.injEq, Option.some.injEq, ge_iff_le, gt_iff_lt, exists_eq_left', exists_eq_left, List.any_cons, List.any_nil, List.contains_cons, List.contains_nil, exB, String.reduceBEq, String.reduceEq, beq_self_eq_true, bne_self_eq_false, Bool.not_eq_true, Bool.not_eq_false, Tabs.G, List.lookup_cons, List.lookup_nil, Nat.add_assoc]
  refine wp_use (take_ok hp hpen (by omega) (by omega)) fun v S' ⟨o, c1, m1, e1, o0, o1, h1, e2⟩ => ?_
  subst e1 e2
  obtain ⟨o, rfl⟩ : ∃ o' : Nat, o = o' := ⟨o.toNat, by omega⟩
  simp -implicitDefEqProofs only [lp, lq, lj, lh, z2, hpq, hpj, hph, hjh, hjq, at_set_ne, hq, hj, hh, ne_eq, not_false_eq_true, wp_ok, wp_exc, wp_fail, wp_bind, wp_liftE, wp_noX, wp_ite, wp_var, wp_cst, wp_glb, wp_op0, wp_op1, wp_op2, wp_op3, wp_and, wp_or, wp_not, wp_iteE, wp_chain, wp_call, wp_tup, wp_lst, wp_dct, wp_comp, wp_nil, wp_cons, wt_and, wt_or, wt_not, wt_op2, wt_chain, wt_var, wt_cst, wt_op1, wt_call, wi_one, wi_two, asB_b, ws_ex, ws_asg, ws_sset, ws_ret, ws_ret0, ws_ite, ws_for, ws_whl, ws_raise, ws_try, tryP_nx, tryP_ret, tryP_exc, ws_cont, ws_brk, wb_nil, wb_cons, seqF_nx, seqF_ret, seqF_brk, seqF_cont, seqF_exc, endP_nx, endP_ret, endP_exc, fin_tree, fin_app, fin_app0, at_app0, at_app, at_lt, set_app0, set_app, set_lt, take_app, take_self, at_set, vw_t, vw_o, tree_frz, tree_lst, tree_dic, fz_t, fz_o, fzs_nil, fzs_cons, nrm_t, nrm_o, turnF_nx, turnF_cont, turnF_brk, turnF_ret, turnF_exc, stands_nil, stands_cons, wat_t, wat_o, s0, s1, s2, s3, w1, w2, bindT, sets, trB, truth, pre2, pre3, mid3, isL, isCmp, putO, slc, inC, wipeE, seq?, atI_0, atI_1, atI_2, atI_m, ixN_0, ixN_1, T.flat, teq, below, List.map_cons, List.map_nil, List.cons_append, List.nil_append, List.append_assoc, List.append_nil, List.length_cons, List.length_nil, List.length_append, List.length_set, List.length_map, List.getElem?_cons_zero, List.getElem?_cons_succ, List.set_cons_zero, List.set_cons_succ, List.set_set, List.replicate_succ, List.replicate_zero, Option.map_some, Option.map_none, if_true, if_false, ite_true, ite_false, if_false_right, Bool.false_eq_true, decide_eq_true_eq, Bool.and_eq_true, Bool.or_eq_true, Bool.true_or, Bool.false_or, Bool.or_false, Bool.true_and, Bool.and_true, Bool.and_false, Bool.false_and, Bool.not_true, Bool.not_false, Nat.add_zero, Nat.zero_add, true_and, and_true, eq_self, reduceCtorEq, and_self, Int.reduceNeg, Int.reduceEq, Int.reduceBEq, Int.reduceLT, Int.reduceLE, Int.reducePow, Int.reduceToNat, Int.reduceAdd, Int.reduceMul, Int.reduceMod, Int.reduceDiv, Int.reduceSub, Nat.reduceAdd, Nat.reduceSub, Nat.reduceLT, Nat.reduceLeDiff, Nat.reducePow, true_or, or_true, or_false, false_or, beq_iff_eq, RV.t.injEq, RV.o.injEq, T.int.injEq, T.str.injEq, T.bl.injEq, Option.some.injEq, ge_iff_le, gt_iff_lt, exists_eq_left', exists_eq_left, List.any_cons, List.any_nil, List.contains_cons, List.contains_nil, exB, String.reduceBEq, String.reduceEq, beq_self_eq_true, bne_self_eq_false, Bool.not_eq_true, Bool.not_eq_false, Tabs.G, List.lookup_cons, List.lookup_nil, Nat.add_assoc]
  refine wp_use (take_ok (p := p) (c := c1) (m := m1) (by simp -implicitDefEqProofs only [lp, wp_ok, wp_exc, wp_fail, wp_bind, wp_liftE, wp_noX, wp_ite, wp_var, wp_cst, wp_glb, wp_op0, wp_op1, wp_op2, wp_op3, wp_and, wp_or, wp_not, wp_iteE, wp_chain, wp_call, wp_tup, wp_lst, wp_dct, wp_comp, wp_nil, wp_cons, wt_and, wt_or, wt_not, wt_op2, wt_chain, wt_var, wt_cst, wt_op1, wt_call, wi_one, wi_two, asB_b, ws_ex, ws_asg, ws_sset, ws_ret, ws_ret0, ws_ite, ws_for, ws_whl, ws_raise, ws_try, tryP_nx, tryP_ret, tryP_exc, ws_cont, ws_brk, wb_nil, wb_cons, seqF_nx, seqF_ret, seqF_brk, seqF_cont, seqF_exc, endP_nx, endP_ret, endP_exc, fin_tree, fin_app, fin_app0, at_app0, at_app, at_lt, set_app0, set_app, set_lt, take_app, take_self, at_set, vw_t, vw_o, tree_frz, tree_lst, tree_dic, fz_t, fz_o, fzs_nil, fzs_cons, nrm_t, nrm_o, turnF_nx, turnF_cont, turnF_brk, turnF_ret, turnF_exc, stands_nil, stands_cons, wat_t, wat_o, s0, s1, s2, s3, w1, w2, bindT, sets, trB, truth, pre2, pre3, mid3, isL, isCmp, putO, slc, inC, wipeE, seq?, atI_0, atI_1, atI_2, atI_m, ixN_0, ixN_1, T.flat, teq, below, List.map_cons, List.map_nil, List.cons_append, List.nil_append, List.append_assoc, List.append_nil, List.length_cons, List.length_nil, List.length_append, List.length_set, List.length_map, List.getElem?_cons_zero, List.getElem?_cons_succ, List.set_cons_zero, List.set_cons_succ, List.set_set, List.replicate_succ, List.replicate_zero, Option.map_some, Option.map_none, if_true, if_false, ite_true, ite_false, if_false_right, Bool.false_eq_true, decide_eq_true_eq, Bool.and_eq_true, Bool.or_eq_true, Bool.true_or, Bool.false_or, Bool.or_false, Bool.true_and, Bool.and_true, Bool.and_false, Bool.false_and, Bool.not_true, Bool.not_false, Nat.add_zero, Nat.zero_add, true_and, and_true, eq_self, reduceCtorEq, and_self, Int.reduceNeg, Int.reduceEq, Int.reduceBEq, Int.reduceLT, Int.reduceLE, Int.reducePow, Int.reduceToNat, Int.reduceAdd, Int.reduceMul, Int.reduceMod, Int.reduceDiv, Int.reduceSub, Nat.reduceAdd, Nat.reduceSub, Nat.reduceLT, Nat.reduceLeDiff, Nat.reducePow, true_or, or_true, or_false, false_or, beq_iff_eq, RV.t.injEq, RV.o.injEq, T.int.injEq, T.str.injEq, T.bl.injEq, Option.some.injEq, ge_iff_le, gt_iff_lt, exists_eq_left', exists_eq_left, List.any_cons, List.any_nil, List.contains_cons, List.contains_nil, exB, String.reduceBEq, String.reduceEq, beq_self_eq_true, bne_self_eq_false, Bool.not_eq_true, Bool.not_eq_false, Tabs.G, List.lookup_cons, List.lookup_nil, Nat.add_assoc]) h1 (by decide) (by decide)) fun v S' ⟨r1, c2, m2, e1, r10, r11, h2, e2⟩ => ?_
  subst e1 e2
  obtain ⟨how, eh, hh2⟩ := at_2s (a := Str.ofString "box") (b := Str.ofString "sworn") r10 r11
  simp -implicitDefEqProofs only [lp, lq, lj, lh, z2, eh, hpq, hpj, hph, hjh, hjq, at_set_ne, hq, hj, hh, ne_eq, not_false_eq_true, wp_ok, wp_exc, wp_fail, wp_bind, wp_liftE, wp_noX, wp_ite, wp_var, wp_cst, wp_glb, wp_op0, wp_op1, wp_op2, wp_op3, wp_and, wp_or, wp_not, wp_iteE, wp_chain, wp_call, wp_tup, wp_lst, wp_dct, wp_comp, wp_nil, wp_cons, wt_and, wt_or, wt_not, wt_op2, wt_chain, wt_var, wt_cst, wt_op1, wt_call, wi_one, wi_two, asB_b, ws_ex, ws_asg, ws_sset, ws_ret, ws_ret0, ws_ite, ws_for, ws_whl, ws_raise, ws_try, tryP_nx, tryP_ret, tryP_exc, ws_cont, ws_brk, wb_nil, wb_cons, seqF_nx, seqF_ret, seqF_brk, seqF_cont, seqF_exc, endP_nx, endP_ret, endP_exc, fin_tree, fin_app, fin_app0, at_app0, at_app, at_lt, set_app0, set_app, set_lt, take_app, take_self, at_set, vw_t, vw_o, tree_frz, tree_lst, tree_dic, fz_t, fz_o, fzs_nil, fzs_cons, nrm_t, nrm_o, turnF_nx, turnF_cont, turnF_brk, turnF_ret, turnF_exc, stands_nil, stands_cons, wat_t, wat_o, s0, s1, s2, s3, w1, w2, bindT, sets, trB, truth, pre2, pre3, mid3, isL, isCmp, putO, slc, inC, wipeE, seq?, atI_0, atI_1, atI_2, atI_m, ixN_0, ixN_1, T.flat, teq, below, List.map_cons, List.map_nil, List.cons_append, List.nil_append, List.append_assoc, List.append_nil, List.length_cons, List.length_nil, List.length_append, List.length_set, List.length_map, List.getElem?_cons_zero, List.getElem?_cons_succ, List.set_cons_zero, List.set_cons_succ, List.set_set, List.replicate_succ, List.replicate_zero, Option.map_some, Option.map_none, if_true, if_false, ite_true, ite_false, if_false_right, Bool.false_eq_true, decide_eq_true_eq, Bool.and_eq_true, Bool.or_eq_true, Bool.true_or, Bool.false_or, Bool.or_false, Bool.true_and, Bool.and_true, Bool.and_false, Bool.false_and, Bool.not_true, Bool.not_false, Nat.add_zero, Nat.zero_add, true_and, and_true, eq_self, reduceCtorEq, and_self, Int.reduceNeg, Int.reduceEq, Int.reduceBEq, Int.reduceLT, Int.reduceLE, Int.reducePow, Int.reduceToNat, Int.reduceAdd, Int.reduceMul, Int.reduceMod, Int.reduceDiv, Int.reduceSub, Nat.reduceAdd, Nat.reduceSub, Nat.reduceLT, Nat.reduceLeDiff, Nat.reducePow, true_or, or_true, or_false, false_or, beq_iff_eq, RV.t.injEq, RV.o.injEq, T.int.injEq, T.str.injEq, T.bl.injEq, Option.some.injEq, ge_iff_le, gt_iff_lt, exists_eq_left', exists_eq_left, List.any_cons, List.any_nil, List.contains_cons, List.contains_nil, exB, String.reduceBEq, String.reduceEq, beq_self_eq_true, bne_self_eq_false, Bool.not_eq_true, Bool.not_eq_false, Tabs.G, List.lookup_cons, List.lookup_nil, Nat.add_assoc]
  refine wp_use (take_ok (p := p) (c := c2) (m := m2) (by simp -implicitDefEqProofs only [lp, wp_ok, wp_exc, wp_fail, wp_bind, wp_liftE, wp_noX, wp_ite, wp_var, wp_cst, wp_glb, wp_op0, wp_op1, wp_op2, wp_op3, wp_and, wp_or, wp_not, wp_iteE, wp_chain, wp_call, wp_tup, wp_lst, wp_dct, wp_comp, wp_nil, wp_cons, wt_and, wt_or, wt_not, wt_op2, wt_chain, wt_var, wt_cst, wt_op1, wt_call, wi_one, wi_two, asB_b, ws_ex, ws_asg, ws_sset, ws_ret, ws_ret0, ws_ite, ws_for, ws_whl, ws_raise, ws_try, tryP_nx, tryP_ret, tryP_exc, ws_cont, ws_brk, wb_nil, wb_cons, seqF_nx, seqF_ret, seqF_brk, seqF_cont, seqF_exc, endP_nx, endP_ret, endP_exc, fin_tree, fin_app, fin_app0, at_app0, at_app, at_lt, set_app0, set_app, set_lt, take_app, take_self, at_set, vw_t, vw_o, tree_frz, tree_lst, tree_dic, fz_t, fz_o, fzs_nil, fzs_cons, nrm_t, nrm_o, turnF_nx, turnF_cont, turnF_brk, turnF_ret, turnF_exc, stands_nil, stands_cons, wat_t, wat_o, s0, s1, s2, s3, w1, w2, bindT, sets, trB, truth, pre2, pre3, mid3, isL, isCmp, putO, slc, inC, wipeE, seq?, atI_0, atI_1, atI_2, atI_m, ixN_0, ixN_1, T.flat, teq, below, List.map_cons, List.map_nil, List.cons_append, List.nil_append, List.append_assoc, List.append_nil, List.length_cons, List.length_nil, List.length_append, List.length_set, List.length_map, List.getElem?_cons_zero, List.getElem?_cons_succ, List.set_cons_zero, List.set_cons_succ, List.set_set, List.replicate_succ, List.replicate_zero, Option.map_some, Option.map_none, if_true, if_false, ite_true, ite_false, if_false_right, Bool.false_eq_true, decide_eq_true_eq, Bool.and_eq_true, Bool.or_eq_true, Bool.true_or, Bool.false_or, Bool.or_false, Bool.true_and, Bool.and_true, Bool.and_false, Bool.false_and, Bool.not_true, Bool.not_false, Nat.add_zero, Nat.zero_add, true_and, and_true, eq_self, reduceCtorEq, and_self, Int.reduceNeg, Int.reduceEq, Int.reduceBEq, Int.reduceLT, Int.reduceLE, Int.reducePow, Int.reduceToNat, Int.reduceAdd, Int.reduceMul, Int.reduceMod, Int.reduceDiv, Int.reduceSub, Nat.reduceAdd, Nat.reduceSub, Nat.reduceLT, Nat.reduceLeDiff, Nat.reducePow, true_or, or_true, or_false, false_or, beq_iff_eq, RV.t.injEq, RV.o.injEq, T.int.injEq, T.str.injEq, T.bl.injEq, Option.some.injEq, ge_iff_le, gt_iff_lt, exists_eq_left', exists_eq_left, List.any_cons, List.any_nil, List.contains_cons, List.contains_nil, exB, String.reduceBEq, String.reduceEq, beq_self_eq_true, bne_self_eq_false, Bool.not_eq_true, Bool.not_eq_false, Tabs.G, List.lookup_cons, List.lookup_nil, Nat.add_assoc]) h2 (by decide) (by decide)) fun v S' ⟨r2, c3, m3, e1, r20, r21, h3, e2⟩ => ?_
  subst e1 e2
  obtain ⟨z, hz0, ez⟩ := at_strs (ss := ss) r20 (by omega)
  simp -implicitDefEqProofs only [lp, lq, lj, lh, z2, z3, ez, hpq, hpj, hph, hjh, hjq, at_set_ne, hq, hj, hh, ne_eq, not_false_eq_true, wp_ok, wp_exc, wp_fail, wp_bind, wp_liftE, wp_noX, wp_ite, wp_var, wp_cst, wp_glb, wp_op0, wp_op1, wp_op2, wp_op3, wp_and, wp_or, wp_not, wp_iteE, wp_chain, wp_call, wp_tup, wp_lst, wp_dct, wp_comp, wp_nil, wp_cons, wt_and, wt_or, wt_not, wt_op2, wt_chain, wt_var, wt_cst, wt_op1, wt_call, wi_one, wi_two, asB_b, ws_ex, ws_asg, ws_sset, ws_ret, ws_ret0, ws_ite, ws_for, ws_whl, ws_raise, ws_try, tryP_nx, tryP_ret, tryP_exc, ws_cont, ws_brk, wb_nil, wb_cons, seqF_nx, seqF_ret, seqF_brk, seqF_cont, seqF_exc, endP_nx, endP_ret, endP_exc, fin_tree, fin_app, fin_app0, at_app0, at_app, at_lt, set_app0, set_app, set_lt, take_app, take_self, at_set, vw_t, vw_o, tree_frz, tree_lst, tree_dic, fz_t, fz_o, fzs_nil, fzs_cons, nrm_t, nrm_o, turnF_nx, turnF_cont, turnF_brk, turnF_ret, turnF_exc, stands_nil, stands_cons, wat_t, wat_o, s0, s1, s2, s3, w1, w2, bindT, sets, trB, truth, pre2, pre3, mid3, isL, isCmp, putO, slc, inC, wipeE, seq?, atI_0, atI_1, atI_2, atI_m, ixN_0, ixN_1, T.flat, teq, below, List.map_cons, List.map_nil, List.cons_append, List.nil_append, List.append_assoc, List.append_nil, List.length_cons, List.length_nil, List.length_append, List.length_set, List.length_map, List.getElem?_cons_zero, List.getElem?_cons_succ, List.set_cons_zero, List.set_cons_succ, List.set_set, List.replicate_succ, List.replicate_zero, Option.map_some, Option.map_none, if_true, if_false, ite_true, ite_false, if_false_right, Bool.false_eq_true, decide_eq_true_eq, Bool.and_eq_true, Bool.or_eq_true, Bool.true_or, Bool.false_or, Bool.or_false, Bool.true_and, Bool.and_true, Bool.and_false, Bool.false_and, Bool.not_true, Bool.not_false, Nat.add_zero, Nat.zero_add, true_and, and_true, eq_self, reduceCtorEq, and_self, Int.reduceNeg, Int.reduceEq, Int.reduceBEq, Int.reduceLT, Int.reduceLE, Int.reducePow, Int.reduceToNat, Int.reduceAdd, Int.reduceMul, Int.reduceMod, Int.reduceDiv, Int.reduceSub, Nat.reduceAdd, Nat.reduceSub, Nat.reduceLT, Nat.reduceLeDiff, Nat.reducePow, true_or, or_true, or_false, false_or, beq_iff_eq, RV.t.injEq, RV.o.injEq, T.int.injEq, T.str.injEq, T.bl.injEq, Option.some.injEq, ge_iff_le, gt_iff_lt, exists_eq_left', exists_eq_left, List.any_cons, List.any_nil, List.contains_cons, List.contains_nil, exB, String.reduceBEq, String.reduceEq, beq_self_eq_true, bne_self_eq_false, Bool.not_eq_true, Bool.not_eq_false, Tabs.G, List.lookup_cons, List.lookup_nil, Nat.add_assoc]
  refine ⟨by decide, ?_⟩
  refine wp_use (take_ok (p := p) (c := c3) (m := m3) (by simp -implicitDefEqProofs only [lp, wp_ok, wp_exc, wp_fail, wp_bind, wp_liftE, wp_noX, wp_ite, wp_var, wp_cst, wp_glb, wp_op0, wp_op1, wp_op2, wp_op3, wp_and, wp_or, wp_not, wp_iteE, wp_chain, wp_call, wp_tup, wp_lst, wp_dct, wp_comp, wp_nil, wp_cons, wt_and, wt_or, wt_not, wt_op2, wt_chain, wt_var, wt_cst, wt_op1, wt_call, wi_one, wi_two, asB_b, ws_ex, ws_asg, ws_sset, ws_ret, ws_ret0, ws_ite, ws_for, ws_whl, ws_raise, ws_try, tryP_nx, tryP_ret, tryP_exc, ws_cont, ws_brk, wb_nil, wb_cons, seqF_nx, seqF_ret, seqF_brk, seqF_cont, seqF_exc, endP_nx, endP_ret, endP_exc, fin_tree, fin_app, fin_app0, at_app0, at_app, at_lt, set_app0, set_app, set_lt, take_app, take_self, at_set, vw_t, vw_o, tree_frz, tree_lst, tree_dic, fz_t, fz_o, fzs_nil, fzs_cons, nrm_t, nrm_o, turnF_nx, turnF_cont, turnF_brk, turnF_ret, turnF_exc, stands_nil, stands_cons, wat_t, wat_o, s0, s1, s2, s3, w1, w2, bindT, sets, trB, truth, pre2, pre3, mid3, isL, isCmp, putO, slc, inC, wipeE, seq?, atI_0, atI_1, atI_2, atI_m, ixN_0, ixN_1, T.flat, teq, below, List.map_cons, List.map_nil, List.cons_append, List.nil_append, List.append_assoc, List.append_nil, List.length_cons, List.length_nil, List.length_append, List.length_set, List.length_map, List.getElem?_cons_zero, List.getElem?_cons_succ, List.set_cons_zero, List.set_cons_succ, List.set_set, List.replicate_succ, List.replicate_zero, Option.map_some, Option.map_none, if_true, if_false, ite_true, ite_false, if_false_right, Bool.false_eq_true, decide_eq_true_eq, Bool.and_eq_true, Bool.or_eq_true, Bool.true_or, Bool.false_or, Bool.or_false, Bool.true_and, Bool.and_true, Bool.and_false, Bool.false_and, Bool.not_true, Bool.not_false, Nat.add_zero, Nat.zero_add, true_and, and_true, eq_self, reduceCtorEq, and_self, Int.reduceNeg, Int.reduceEq, Int.reduceBEq, Int.reduceLT, Int.reduceLE, Int.reducePow, Int.reduceToNat, Int.reduceAdd, Int.reduceMul, Int.reduceMod, Int.reduceDiv, Int.reduceSub, Nat.reduceAdd, Nat.reduceSub, Nat.reduceLT, Nat.reduceLeDiff, Nat.reducePow, true_or, or_true, or_false, false_or, beq_iff_eq, RV.t.injEq, RV.o.injEq, T.int.injEq, T.str.injEq, T.bl.injEq, Option.some.injEq, ge_iff_le, gt_iff_lt, exists_eq_left', exists_eq_left, List.any_cons, List.any_nil, List.contains_cons, List.contains_nil, exB, String.reduceBEq, String.reduceEq, beq_self_eq_true, bne_self_eq_false, Bool.not_eq_true, Bool.not_eq_false, Tabs.G, List.lookup_cons, List.lookup_nil, Nat.add_assoc]) h3 (by decide) (by decide)) fun v S' ⟨t, c4, m4, e1, t0, t1, h4, e2⟩ => ?_
  subst e1 e2
  have ho : (o : Int) ≤ l.length := by omega
  have k1 : (l.map stT).take o = (l.take o).map stT := by rw [List.map_take]
  have k2 : (l.map stT).drop o = (l.drop o).map stT := by rw [List.map_drop]
  have ka : atI ((l.take o).map stT ++ T.tup [T.str z, T.int (t - 100000000), T.str how] :: (l.drop o).map stT) (o : Int) = some (T.tup [T.str z, T.int (t - 100000000), T.str how]) := by
    have e : ((l.take o).map stT).length = o := by rw [List.length_map, List.length_take]; omega
    rw [atI_m (by omega) (by rw [List.length_append, List.length_cons, e]; omega), Int.toNat_natCast, List.getElem?_append_right (by omega), e, Nat.sub_self]
    rfl
  simp -implicitDefEqProofs only [lp, lq, lj, lh, z2, z3, ez, hpq, hpj, hph, hjh, hjq, at_set_ne, hq, hj, hh, ho, hlz2, k1, k2, ka, Int.toNat_natCast, List.length_map, ne_eq, not_false_eq_true, wp_ok, wp_exc, wp_fail, wp_bind, wp_liftE, wp_noX, wp_ite, wp_var, wp_cst, wp_glb, wp_op0, wp_op1, wp_op2, wp_op3, wp_and, wp_or, wp_not, wp_iteE, wp_chain, wp_call, wp_tup, wp_lst, wp_dct, wp_comp, wp_nil, wp_cons, wt_and, wt_or, wt_not, wt_op2, wt_chain, wt_var, wt_cst, wt_op1, wt_call, wi_one, wi_two, asB_b, ws_ex, ws_asg, ws_sset, ws_ret, ws_ret0, ws_ite, ws_for, ws_whl, ws_raise, ws_try, tryP_nx, tryP_ret, tryP_exc, ws_cont, ws_brk, wb_nil, wb_cons, seqF_nx, seqF_ret, seqF_brk, seqF_cont, seqF_exc, endP_nx, endP_ret, endP_exc, fin_tree, fin_app, fin_app0, at_app0, at_app, at_lt, set_app0, set_app, set_lt, take_app, take_self, at_set, vw_t, vw_o, tree_frz, tree_lst, tree_dic, fz_t, fz_o, fzs_nil, fzs_cons, nrm_t, nrm_o, turnF_nx, turnF_cont, turnF_brk, turnF_ret, turnF_exc, stands_nil, stands_cons, wat_t, wat_o, s0, s1, s2, s3, w1, w2, bindT, sets, trB, truth, pre2, pre3, mid3, isL, isCmp, putO, slc, inC, wipeE, seq?, atI_0, atI_1, atI_2, atI_m, ixN_0, ixN_1, T.flat, teq, below, List.map_cons, List.map_nil, List.cons_append, List.nil_append, List.append_assoc, List.append_nil, List.length_cons, List.length_nil, List.length_append, List.length_set, List.length_map, List.getElem?_cons_zero, List.getElem?_cons_succ, List.set_cons_zero, List.set_cons_succ, List.set_set, List.replicate_succ, List.replicate_zero, Option.map_some, Option.map_none, if_true, if_false, ite_true, ite_false, if_false_right, Bool.false_eq_true, decide_eq_true_eq, Bool.and_eq_true, Bool.or_eq_true, Bool.true_or, Bool.false_or, Bool.or_false, Bool.true_and, Bool.and_true, Bool.and_false, Bool.false_and, Bool.not_true, Bool.not_false, Nat.add_zero, Nat.zero_add, true_and, and_true, eq_self, reduceCtorEq, and_self, Int.reduceNeg, Int.reduceEq, Int.reduceBEq, Int.reduceLT, Int.reduceLE, Int.reducePow, Int.reduceToNat, Int.reduceAdd, Int.reduceMul, Int.reduceMod, Int.reduceDiv, Int.reduceSub, Nat.reduceAdd, Nat.reduceSub, Nat.reduceLT, Nat.reduceLeDiff, Nat.reducePow, true_or, or_true, or_false, false_or, beq_iff_eq, RV.t.injEq, RV.o.injEq, T.int.injEq, T.str.injEq, T.bl.injEq, Option.some.injEq, ge_iff_le, gt_iff_lt, exists_eq_left', exists_eq_left, List.any_cons, List.any_nil, List.contains_cons, List.contains_nil, exB, String.reduceBEq, String.reduceEq, beq_self_eq_true, bne_self_eq_false, Bool.not_eq_true, Bool.not_eq_false, Tabs.G, List.lookup_cons, List.lookup_nil, Nat.add_assoc]
  refine ⟨by decide, by omega, ?_⟩
  have hip : isP (l.length + 1) (.int (o : Int)) = true := decide_eq_true (by omega)
  refine wp_mono (put_any (x := .int o) (s := (z, t - 100000000, how)) trivial (by omega)) (fun v S' ⟨e0, e3, e1, e2⟩ => ?_) (fun e S' ⟨e1, e2, e3⟩ => ?_)
  · subst e1 e2
    refine hP (put l (numT (.int o)).toNat (z, t - 100000000, how)) _ _ _ ?_ (fun s hs' => ?_) ?_ ?_ ?_
    · unfold put
      rw [List.length_append, List.length_cons, List.length_take, List.length_drop]
      omega
    · rcases put_mem hs' with h' | rfl
      · exact hst s h'
      · exact ⟨hss z hz0, hh2⟩
    · simp -implicitDefEqProofs only [lq, hpq, hjq, at_set_ne, hq, ne_eq, not_false_eq_true, wp_ok, wp_exc, wp_fail, wp_bind, wp_liftE, wp_noX, wp_ite, wp_var, wp_cst, wp_glb, wp_op0, wp_op1, wp_op2, wp_op3, wp_and, wp_or, wp_not, wp_iteE, wp_chain, wp_call, wp_tup, wp_lst, wp_dct, wp_comp, wp_nil, wp_cons, wt_and, wt_or, wt_not, wt_op2, wt_chain, wt_var, wt_cst, wt_op1, wt_call, wi_one, wi_two, asB_b, ws_ex, ws_asg, ws_sset, ws_ret, ws_ret0, ws_ite, ws_for, ws_whl, ws_raise, ws_try, tryP_nx, tryP_ret, tryP_exc, ws_cont, ws_brk, wb_nil, wb_cons, seqF_nx, seqF_ret, seqF_brk, seqF_cont, seqF_exc, endP_nx, endP_ret, endP_exc, fin_tree, fin_app, fin_app0, at_app0, at_app, at_lt, set_app0, set_app, set_lt, take_app, take_self, at_set, vw_t, vw_o, tree_frz, tree_lst, tree_dic, fz_t, fz_o, fzs_nil, fzs_cons, nrm_t, nrm_o, turnF_nx, turnF_cont, turnF_brk, turnF_ret, turnF_exc, stands_nil, stands_cons, wat_t, wat_o, s0, s1, s2, s3, w1, w2, bindT, sets, trB, truth, pre2, pre3, mid3, isL, isCmp, putO, slc, inC, wipeE, seq?, atI_0, atI_1, atI_2, atI_m, ixN_0, ixN_1, T.flat, teq, below, List.map_cons, List.map_nil, List.cons_append, List.nil_append, List.append_assoc, List.append_nil, List.length_cons, List.length_nil, List.length_append, List.length_set, List.length_map, List.getElem?_cons_zero, List.getElem?_cons_succ, List.set_cons_zero, List.set_cons_succ, List.set_set, List.replicate_succ, List.replicate_zero, Option.map_some, Option.map_none, if_true, if_false, ite_true, ite_false, if_false_right, Bool.false_eq_true, decide_eq_true_eq, Bool.and_eq_true, Bool.or_eq_true, Bool.true_or, Bool.false_or, Bool.or_false, Bool.true_and, Bool.and_true, Bool.and_false, Bool.false_and, Bool.not_true, Bool.not_false, Nat.add_zero, Nat.zero_add, true_and, and_true, eq_self, reduceCtorEq, and_self, Int.reduceNeg, Int.reduceEq, Int.reduceBEq, Int.reduceLT, Int.reduceLE, Int.reducePow, Int.reduceToNat, Int.reduceAdd, Int.reduceMul, Int.reduceMod, Int.reduceDiv, Int.reduceSub, Nat.reduceAdd, Nat.reduceSub, Nat.reduceLT, Nat.reduceLeDiff, Nat.reducePow, true_or, or_true, or_false, false_or, beq_iff_eq, RV.t.injEq, RV.o.injEq, T.int.injEq, T.str.injEq, T.bl.injEq, Option.some.injEq, ge_iff_le, gt_iff_lt, exists_eq_left', exists_eq_left, List.any_cons, List.any_nil, List.contains_cons, List.contains_nil, exB, String.reduceBEq, String.reduceEq, beq_self_eq_true, bne_self_eq_false, Bool.not_eq_true, Bool.not_eq_false, Tabs.G, List.lookup_cons, List.lookup_nil, Nat.add_assoc]
    · simp -implicitDefEqProofs only [lj, wp_ok, wp_exc, wp_fail, wp_bind, wp_liftE, wp_noX, wp_ite, wp_var, wp_cst, wp_glb, wp_op0, wp_op1, wp_op2, wp_op3, wp_and, wp_or, wp_not, wp_iteE, wp_chain, wp_call, wp_tup, wp_lst, wp_dct, wp_comp, wp_nil, wp_cons, wt_and, wt_or, wt_not, wt_op2, wt_chain, wt_var, wt_cst, wt_op1, wt_call, wi_one, wi_two, asB_b, ws_ex, ws_asg, ws_sset, ws_ret, ws_ret0, ws_ite, ws_for, ws_whl, ws_raise, ws_try, tryP_nx, tryP_ret, tryP_exc, ws_cont, ws_brk, wb_nil, wb_cons, seqF_nx, seqF_ret, seqF_brk, seqF_cont, seqF_exc, endP_nx, endP_ret, endP_exc, fin_tree, fin_app, fin_app0, at_app0, at_app, at_lt, set_app0, set_app, set_lt, take_app, take_self, at_set, vw_t, vw_o, tree_frz, tree_lst, tree_dic, fz_t, fz_o, fzs_nil, fzs_cons, nrm_t, nrm_o, turnF_nx, turnF_cont, turnF_brk, turnF_ret, turnF_exc, stands_nil, stands_cons, wat_t, wat_o, s0, s1, s2, s3, w1, w2, bindT, sets, trB, truth, pre2, pre3, mid3, isL, isCmp, putO, slc, inC, wipeE, seq?, atI_0, atI_1, atI_2, atI_m, ixN_0, ixN_1, T.flat, teq, below, List.map_cons, List.map_nil, List.cons_append, List.nil_append, List.append_assoc, List.append_nil, List.length_cons, List.length_nil, List.length_append, List.length_set, List.length_map, List.getElem?_cons_zero, List.getElem?_cons_succ, List.set_cons_zero, List.set_cons_succ, List.set_set, List.replicate_succ, List.replicate_zero, Option.map_some, Option.map_none, if_true, if_false, ite_true, ite_false, if_false_right, Bool.false_eq_true, decide_eq_true_eq, Bool.and_eq_true, Bool.or_eq_true, Bool.true_or, Bool.false_or, Bool.or_false, Bool.true_and, Bool.and_true, Bool.and_false, Bool.false_and, Bool.not_true, Bool.not_false, Nat.add_zero, Nat.zero_add, true_and, and_true, eq_self, reduceCtorEq, and_self, Int.reduceNeg, Int.reduceEq, Int.reduceBEq, Int.reduceLT, Int.reduceLE, Int.reducePow, Int.reduceToNat, Int.reduceAdd, Int.reduceMul, Int.reduceMod, Int.reduceDiv, Int.reduceSub, Nat.reduceAdd, Nat.reduceSub, Nat.reduceLT, Nat.reduceLeDiff, Nat.reducePow, true_or, or_true, or_false, false_or, beq_iff_eq, RV.t.injEq, RV.o.injEq, T.int.injEq, T.str.injEq, T.bl.injEq, Option.some.injEq, ge_iff_le, gt_iff_lt, exists_eq_left', exists_eq_left, List.any_cons, List.any_nil, List.contains_cons, List.contains_nil, exB, String.reduceBEq, String.reduceEq, beq_self_eq_true, bne_self_eq_false, Bool.not_eq_true, Bool.not_eq_false, Tabs.G, List.lookup_cons, List.lookup_nil, Nat.add_assoc]
      unfold put
      rw [List.map_append, List.map_cons]
      rfl
    · simp -implicitDefEqProofs only [lh, hph, hjh, at_set_ne, hh, ne_eq, not_false_eq_true, wp_ok, wp_exc, wp_fail, wp_bind, wp_liftE, wp_noX, wp_ite, wp_var, wp_cst, wp_glb, wp_op0, wp_op1, wp_op2, wp_op3, wp_and, wp_or, wp_not, wp_iteE, wp_chain, wp_call, wp_tup, wp_lst, wp_dct, wp_comp, wp_nil, wp_cons, wt_and, wt_or, wt_not, wt_op2, wt_chain, wt_var, wt_cst, wt_op1, wt_call, wi_one, wi_two, asB_b, ws_ex, ws_asg, ws_sset, ws_ret, ws_ret0, ws_ite, ws_for, ws_whl, ws_raise, ws_try, tryP_nx, tryP_ret, tryP_exc, ws_cont, ws_brk, wb_nil, wb_cons, seqF_nx, seqF_ret, seqF_brk, seqF_cont, seqF_exc, endP_nx, endP_ret, endP_exc, fin_tree, fin_app, fin_app0, at_app0, at_app, at_lt, set_app0, set_app, set_lt, take_app, take_self, at_set, vw_t, vw_o, tree_frz, tree_lst, tree_dic, fz_t, fz_o, fzs_nil, fzs_cons, nrm_t, nrm_o, turnF_nx, turnF_cont, turnF_brk, turnF_ret, turnF_exc, stands_nil, stands_cons, wat_t, wat_o, s0, s1, s2, s3, w1, w2, bindT, sets, trB, truth, pre2, pre3, mid3, isL, isCmp, putO, slc, inC, wipeE, seq?, atI_0, atI_1, atI_2, atI_m, ixN_0, ixN_1, T.flat, teq, below, List.map_cons, List.map_nil, List.cons_append, List.nil_append, List.append_assoc, List.append_nil, List.length_cons, List.length_nil, List.length_append, List.length_set, List.length_map, List.getElem?_cons_zero, List.getElem?_cons_succ, List.set_cons_zero, List.set_cons_succ, List.set_set, List.replicate_succ, List.replicate_zero, Option.map_some, Option.map_none, if_true, if_false, ite_true, ite_false, if_false_right, Bool.false_eq_true, decide_eq_true_eq, Bool.and_eq_true, Bool.or_eq_true, Bool.true_or, Bool.false_or, Bool.or_false, Bool.true_and, Bool.and_true, Bool.and_false, Bool.false_and, Bool.not_true, Bool.not_false, Nat.add_zero, Nat.zero_add, true_and, and_true, eq_self, reduceCtorEq, and_self, Int.reduceNeg, Int.reduceEq, Int.reduceBEq, Int.reduceLT, Int.reduceLE, Int.reducePow, Int.reduceToNat, Int.reduceAdd, Int.reduceMul, Int.reduceMod, Int.reduceDiv, Int.reduceSub, Nat.reduceAdd, Nat.reduceSub, Nat.reduceLT, Nat.reduceLeDiff, Nat.reducePow, true_or, or_true, or_false, false_or, beq_iff_eq, RV.t.injEq, RV.o.injEq, T.int.injEq, T.str.injEq, T.bl.injEq, Option.some.injEq, ge_iff_le, gt_iff_lt, exists_eq_left', exists_eq_left, List.any_cons, List.any_nil, List.contains_cons, List.contains_nil, exB, String.reduceBEq, String.reduceEq, beq_self_eq_true, bne_self_eq_false, Bool.not_eq_true, Bool.not_eq_false, Tabs.G, List.lookup_cons, List.lookup_nil, Nat.add_assoc]
  · have := e3 hip
    omega
end
end K04

set_option maxRecDepth 100000
set_option maxHeartbeats 1000000
namespace K04
open PySem PV L2
theorem body_ok {k : Nat} {B : Store} {q j h i : Nat} {ns : List Int} {ss : List Str} {l : List Stamp} {hs : List (List Stamp)} {a6 a7 a8 a9 a10 a11 : Option RV} {PF : Fl × En → Store → Prop} {E : Exc → Store → Prop}
    (hq : B[q]? = some (.lst (ss.map T.str))) (hj : B[j]? = some (.lst (l.map stT))) (hh : B[h]? = some (.lst (hs.map hT))) (hjh : j ≠ h) (hjq : j ≠ q) (hhq : h ≠ q) (hss : ∀ s ∈ ss, Tx 30 s) (h0 : ss.length = 4) (hl : l.length ≤ 24) (hst : ∀ s ∈ l, StOk s) (hi : i < 40) (hhs : hs.length = i)
    (hP : ∀ env S' (l' : List Stamp) (b6 b7 b8 b9 b10 b11 : Option RV), env = [some (.t (.rol (ns.map T.int))), some (.o q), some (.t (.tup (l'.map stT))), some (.o j), some (.o h), some (.t (.int (0 + (i : Int)))), b6, b7, b8, b9, b10, b11] →
      S'[q]? = some (.lst (ss.map T.str)) → S'[j]? = some (.lst (l'.map stT)) → S'[h]? = some (.lst ((hs ++ [l']).map hT)) → l'.length ≤ 24 → (∀ s ∈ l', StOk s) → PF (.nx, env) S') :
    (exes tabs.G (callF tabs.G tabs.Δ (k + 4)) bodyB [some (.t (.rol (ns.map T.int))), some (.o q), some (.t (.tup (l.map stT))), some (.o j), some (.o h), some (.t (.int (0 + (i : Int)))), a6, a7, a8, a9, a10, a11] B).wp PF E := by
  have lq := lt_of_at hq
  have lj := lt_of_at hj
  have lh := lt_of_at hh
  have z2 : 2 ≤ sizeLine := zle (by decide)
  have z3 : 3 ≤ sizeLine := zle (by decide)
  have hlz : l.length ≤ sizeLine := zle (by omega)
  have ll := eqT_low (low_sts hst 58) (show low 60 (.lst []) = true by simp [low, lows])
  have eqi : eqT (T.int (l.length : Int)) (T.int 24) = some ((l.length : Int) == 24) := by simp -implicitDefEqProofs only [wp_ok, wp_exc, wp_fail, wp_bind, wp_liftE, wp_noX, wp_ite, wp_var, wp_cst, wp_glb, wp_op0, wp_op1, wp_op2, wp_op3, wp_and, wp_or, wp_not, wp_iteE, wp_chain, wp_call, wp_tup, wp_lst, wp_dct, wp_comp, wp_nil, wp_cons, wt_and, wt_or, wt_not, wt_op2, wt_chain, wt_var, wt_cst, wt_op1, wt_call, wi_one, wi_two, asB_b, ws_ex, ws_asg, ws_sset, ws_ret, ws_ret0, ws_ite, ws_for, ws_whl, ws_raise, ws_try, tryP_nx, tryP_ret, tryP_exc, ws_cont, ws_brk, wb_nil, wb_cons, seqF_nx, seqF_ret, seqF_brk, seqF_cont, seqF_exc, endP_nx, endP_ret, endP_exc, fin_tree, fin_app, fin_app0, at_app0, at_app, at_lt, set_app0, set_app, set_lt, take_app, take_self, at_set, vw_t, vw_o, tree_frz, tree_lst, tree_dic, fz_t, fz_o, fzs_nil, fzs_cons, nrm_t, nrm_o, turnF_nx, turnF_cont, turnF_brk, turnF_ret, turnF_exc, stands_nil, stands_cons, wat_t, wat_o, s0, s1, s2, s3, w1, w2, bindT, sets, trB, truth, pre2, pre3, mid3, isL, isCmp, putO, slc, inC, wipeE, seq?, atI_0, atI_1, atI_2, atI_m, ixN_0, ixN_1, scalT, T.flat, teq, eqT, eqD, below, T.ty, List.map_cons, List.map_nil, List.cons_append, List.nil_append, List.append_assoc, List.append_nil, List.length_cons, List.length_nil, List.length_append, List.length_set, List.length_map, List.getElem?_cons_zero, List.getElem?_cons_succ, List.set_cons_zero, List.set_cons_succ, List.set_set, List.replicate_succ, List.replicate_zero, Option.map_some, Option.map_none, if_true, if_false, ite_true, ite_false, if_false_right, Bool.false_eq_true, decide_eq_true_eq, Bool.and_eq_true, Bool.or_eq_true, Bool.true_or, Bool.false_or, Bool.or_false, Bool.true_and, Bool.and_true, Bool.and_false, Bool.false_and, Bool.not_true, Bool.not_false, Nat.add_zero, Nat.zero_add, true_and, and_true, eq_self, reduceCtorEq, and_self, Int.reduceNeg, Int.reduceEq, Int.reduceBEq, Int.reduceLT, Int.reduceLE, Int.reducePow, Int.reduceToNat, Int.reduceAdd, Int.reduceMul, Int.reduceMod, Int.reduceDiv, Int.reduceSub, Nat.reduceAdd, Nat.reduceSub, Nat.reduceLT, Nat.reduceLeDiff, Nat.reducePow, true_or, or_true, or_false, false_or, beq_iff_eq, RV.t.injEq, RV.o.injEq, T.int.injEq, T.str.injEq, T.bl.injEq, Option.some.injEq, ge_iff_le, gt_iff_lt, exists_eq_left', exists_eq_left, List.any_cons, List.any_nil, List.contains_cons, List.contains_nil, exB, String.reduceBEq, String.reduceEq, beq_self_eq_true, bne_self_eq_false, Bool.not_eq_true, Bool.not_eq_false, Tabs.G, List.lookup_cons, List.lookup_nil]
  -- what is told behind each branch
  have next : ∀ (l' : List Stamp) (b6 b7 b8 b9 b10 b11 : Option RV) (S' : Store), l'.length ≤ 24 → (∀ s ∈ l', StOk s) → S'[q]? = some (.lst (ss.map T.str)) → S'[j]? = some (.lst (l'.map stT)) → S'[h]? = some (.lst (hs.map hT)) →
      (exes tabs.G (callF tabs.G tabs.Δ (k + 4)) tail3 [some (.t (.rol (ns.map T.int))), some (.o q), some (.t (.tup (l'.map stT))), some (.o j), some (.o h), some (.t (.int (0 + (i : Int)))), b6, b7, b8, b9, b10, b11] S').wp PF E := by
    intro l' b6 b7 b8 b9 b10 b11 S' h1 h2 h3 h4 h5
    have l3 := lt_of_at h3
    have l4 := lt_of_at h4
    have l5 := lt_of_at h5
    refine tail3_ok h4 h5 (Ne.symm hjh) h1 h2 (by omega) fun env S'' g e1 e2 => ?_
    subst e1 e2
    refine hP _ _ l' _ _ _ _ _ _ rfl ?_ ?_ ?_ h1 h2
    · simp -implicitDefEqProofs only [l3, hhq, at_set_ne, h3, ne_eq, not_false_eq_true, wp_ok, wp_exc, wp_fail, wp_bind, wp_liftE, wp_noX, wp_ite, wp_var, wp_cst, wp_glb, wp_op0, wp_op1, wp_op2, wp_op3, wp_and, wp_or, wp_not, wp_iteE, wp_chain, wp_call, wp_tup, wp_lst, wp_dct, wp_comp, wp_nil, wp_cons, wt_and, wt_or, wt_not, wt_op2, wt_chain, wt_var, wt_cst, wt_op1, wt_call, wi_one, wi_two, asB_b, ws_ex, ws_asg, ws_sset, ws_ret, ws_ret0, ws_ite, ws_for, ws_whl, ws_raise, ws_try, tryP_nx, tryP_ret, tryP_exc, ws_cont, ws_brk, wb_nil, wb_cons, seqF_nx, seqF_ret, seqF_brk, seqF_cont, seqF_exc, endP_nx, endP_ret, endP_exc, fin_tree, fin_app, fin_app0, at_app0, at_app, at_lt, set_app0, set_app, set_lt, take_app, take_self, at_set, vw_t, vw_o, tree_frz, tree_lst, tree_dic, fz_t, fz_o, fzs_nil, fzs_cons, nrm_t, nrm_o, turnF_nx, turnF_cont, turnF_brk, turnF_ret, turnF_exc, stands_nil, stands_cons, wat_t, wat_o, s0, s1, s2, s3, w1, w2, bindT, sets, trB, truth, pre2, pre3, mid3, isL, isCmp, putO, slc, inC, wipeE, seq?, atI_0, atI_1, atI_2, atI_m, ixN_0, ixN_1, T.flat, teq, below, List.map_cons, List.map_nil, List.cons_append, List.nil_append, List.append_assoc, List.append_nil, List.length_cons, List.length_nil, List.length_append, List.length_set, List.length_map, List.getElem?_cons_zero, List.getElem?_cons_succ, List.set_cons_zero, List.set_cons_succ, List.set_set, List.replicate_succ, List.replicate_zero, Option.map_some, Option.map_none, if_true, if_false, ite_true, ite_false, if_false_right, Bool.false_eq_true, decide_eq_true_eq, Bool.and_eq_true, Bool.or_eq_true, Bool.true_or, Bool.false_or, Bool.or_false, Bool.true_and, Bool.and_true, Bool.and_false, Bool.false_and, Bool.not_true, Bool.not_false, Nat.add_zero, Nat.zero_add, true_and, and_true, eq_self, reduceCtorEq, and_self, Int.reduceNeg, Int.reduceEq, Int.reduceBEq, Int.reduceLT, Int.reduceLE, Int.reducePow, Int.reduceToNat, Int.reduceAdd, Int.reduceMul, Int.reduceMod, Int.reduceDiv, Int.reduceSub, Nat.reduceAdd, Nat.reduceSub, Nat.reduceLT, Nat.reduceLeDiff, Nat.reducePow, true_or, or_true, or_false, false_or, beq_iff_eq, RV.t.injEq, RV.o.injEq, T.int.injEq, T.str.injEq, T.bl.injEq, Option.some.injEq, ge_iff_le, gt_iff_lt, exists_eq_left', exists_eq_left, List.any_cons, List.any_nil, List.contains_cons, List.contains_nil, exB, String.reduceBEq, String.reduceEq, beq_self_eq_true, bne_self_eq_false, Bool.not_eq_true, Bool.not_eq_false, Tabs.G, List.lookup_cons, List.lookup_nil, Nat.add_assoc]
    · simp -implicitDefEqProofs only [l4, Ne.symm hjh, at_set_ne, h4, ne_eq, not_false_eq_true, wp_ok, wp_exc, wp_fail, wp_bind, wp_liftE, wp_noX, wp_ite, wp_var, wp_cst, wp_glb, wp_op0, wp_op1, wp_op2, wp_op3, wp_and, wp_or, wp_not, wp_iteE, wp_chain, wp_call, wp_tup, wp_lst, wp_dct, wp_comp, wp_nil, wp_cons, wt_and, wt_or, wt_not, wt_op2, wt_chain, wt_var, wt_cst, wt_op1, wt_call, wi_one, wi_two, asB_b, ws_ex, ws_asg, ws_sset, ws_ret, ws_ret0, ws_ite, ws_for, ws_whl, ws_raise, ws_try, tryP_nx, tryP_ret, tryP_exc, ws_cont, ws_brk, wb_nil, wb_cons, seqF_nx, seqF_ret, seqF_brk, seqF_cont, seqF_exc, endP_nx, endP_ret, endP_exc, fin_tree, fin_app, fin_app0, at_app0, at_app, at_lt, set_app0, set_app, set_lt, take_app, take_self, at_set, vw_t, vw_o, tree_frz, tree_lst, tree_dic, fz_t, fz_o, fzs_nil, fzs_cons, nrm_t, nrm_o, turnF_nx, turnF_cont, turnF_brk, turnF_ret, turnF_exc, stands_nil, stands_cons, wat_t, wat_o, s0, s1, s2, s3, w1, w2, bindT, sets, trB, truth, pre2, pre3, mid3, isL, isCmp, putO, slc, inC, wipeE, seq?, atI_0, atI_1, atI_2, atI_m, ixN_0, ixN_1, T.flat, teq, below, List.map_cons, List.map_nil, List.cons_append, List.nil_append, List.append_assoc, List.append_nil, List.length_cons, List.length_nil, List.length_append, List.length_set, List.length_map, List.getElem?_cons_zero, List.getElem?_cons_succ, List.set_cons_zero, List.set_cons_succ, List.set_set, List.replicate_succ, List.replicate_zero, Option.map_some, Option.map_none, if_true, if_false, ite_true, ite_false, if_false_right, Bool.false_eq_true, decide_eq_true_eq, Bool.and_eq_true, Bool.or_eq_true, Bool.true_or, Bool.false_or, Bool.or_false, Bool.true_and, Bool.and_true, Bool.and_false, Bool.false_and, Bool.not_true, Bool.not_false, Nat.add_zero, Nat.zero_add, true_and, and_true, eq_self, reduceCtorEq, and_self, Int.reduceNeg, Int.reduceEq, Int.reduceBEq, Int.reduceLT, Int.reduceLE, Int.reducePow, Int.reduceToNat, Int.reduceAdd, Int.reduceMul, Int.reduceMod, Int.reduceDiv, Int.reduceSub, Nat.reduceAdd, Nat.reduceSub, Nat.reduceLT, Nat.reduceLeDiff, Nat.reducePow, true_or, or_true, or_false, false_or, beq_iff_eq, RV.t.injEq, RV.o.injEq, T.int.injEq, T.str.injEq, T.bl.injEq, Option.some.injEq, ge_iff_le, gt_iff_lt, exists_eq_left', exists_eq_left, List.any_cons, List.any_nil, List.contains_cons, List.contains_nil, exB, String.reduceBEq, String.reduceEq, beq_self_eq_true, bne_self_eq_false, Bool.not_eq_true, Bool.not_eq_false, Tabs.G, List.lookup_cons, List.lookup_nil, Nat.add_assoc]
    · simp -implicitDefEqProofs only [l5, wp_ok, wp_exc, wp_fail, wp_bind, wp_liftE, wp_noX, wp_ite, wp_var, wp_cst, wp_glb, wp_op0, wp_op1, wp_op2, wp_op3, wp_and, wp_or, wp_not, wp_iteE, wp_chain, wp_call, wp_tup, wp_lst, wp_dct, wp_comp, wp_nil, wp_cons, wt_and, wt_or, wt_not, wt_op2, wt_chain, wt_var, wt_cst, wt_op1, wt_call, wi_one, wi_two, asB_b, ws_ex, ws_asg, ws_sset, ws_ret, ws_ret0, ws_ite, ws_for, ws_whl, ws_raise, ws_try, tryP_nx, tryP_ret, tryP_exc, ws_cont, ws_brk, wb_nil, wb_cons, seqF_nx, seqF_ret, seqF_brk, seqF_cont, seqF_exc, endP_nx, endP_ret, endP_exc, fin_tree, fin_app, fin_app0, at_app0, at_app, at_lt, set_app0, set_app, set_lt, take_app, take_self, at_set, vw_t, vw_o, tree_frz, tree_lst, tree_dic, fz_t, fz_o, fzs_nil, fzs_cons, nrm_t, nrm_o, turnF_nx, turnF_cont, turnF_brk, turnF_ret, turnF_exc, stands_nil, stands_cons, wat_t, wat_o, s0, s1, s2, s3, w1, w2, bindT, sets, trB, truth, pre2, pre3, mid3, isL, isCmp, putO, slc, inC, wipeE, seq?, atI_0, atI_1, atI_2, atI_m, ixN_0, ixN_1, T.flat, teq, below, List.map_cons, List.map_nil, List.cons_append, List.nil_append, List.append_assoc, List.append_nil, List.length_cons, List.length_nil, List.length_append, List.length_set, List.length_map, List.getElem?_cons_zero, List.getElem?_cons_succ, List.set_cons_zero, List.set_cons_succ, List.set_set, List.replicate_succ, List.replicate_zero, Option.map_some, Option.map_none, if_true, if_false, ite_true, ite_false, if_false_right, Bool.false_eq_true, decide_eq_true_eq, Bool.and_eq_true, Bool.or_eq_true, Bool.true_or, Bool.false_or, Bool.or_false, Bool.true_and, Bool.and_true, Bool.and_false, Bool.false_and, Bool.not_true, Bool.not_false, Nat.add_zero, Nat.zero_add, true_and, and_true, eq_self, reduceCtorEq, and_self, Int.reduceNeg, Int.reduceEq, Int.reduceBEq, Int.reduceLT, Int.reduceLE, Int.reducePow, Int.reduceToNat, Int.reduceAdd, Int.reduceMul, Int.reduceMod, Int.reduceDiv, Int.reduceSub, Nat.reduceAdd, Nat.reduceSub, Nat.reduceLT, Nat.reduceLeDiff, Nat.reducePow, true_or, or_true, or_false, false_or, beq_iff_eq, RV.t.injEq, RV.o.injEq, T.int.injEq, T.str.injEq, T.bl.injEq, Option.some.injEq, ge_iff_le, gt_iff_lt, exists_eq_left', exists_eq_left, List.any_cons, List.any_nil, List.contains_cons, List.contains_nil, exB, String.reduceBEq, String.reduceEq, beq_self_eq_true, bne_self_eq_false, Bool.not_eq_true, Bool.not_eq_false, Tabs.G, List.lookup_cons, List.lookup_nil, Nat.add_assoc]
  rw [body_eq]
  simp -implicitDefEqProofs only [joinS, foldI, st3, inner, iteB, bodyB, dropS, f_law, wp_ok, wp_exc, wp_fail, wp_bind, wp_liftE, wp_noX, wp_ite, wp_var, wp_cst, wp_glb, wp_op0, wp_op1, wp_op2, wp_op3, wp_and, wp_or, wp_not, wp_iteE, wp_chain, wp_call, wp_tup, wp_lst, wp_dct, wp_comp, wp_nil, wp_cons, wt_and, wt_or, wt_not, wt_op2, wt_chain, wt_var, wt_cst, wt_op1, wt_call, wi_one, wi_two, asB_b, ws_ex, ws_asg, ws_sset, ws_ret, ws_ret0, ws_ite, ws_for, ws_whl, ws_raise, ws_try, tryP_nx, tryP_ret, tryP_exc, ws_cont, ws_brk, wb_nil, wb_cons, seqF_nx, seqF_ret, seqF_brk, seqF_cont, seqF_exc, endP_nx, endP_ret, endP_exc, fin_tree, fin_app, fin_app0, at_app0, at_app, at_lt, set_app0, set_app, set_lt, take_app, take_self, at_set, vw_t, vw_o, tree_frz, tree_lst, tree_dic, fz_t, fz_o, fzs_nil, fzs_cons, nrm_t, nrm_o, turnF_nx, turnF_cont, turnF_brk, turnF_ret, turnF_exc, stands_nil, stands_cons, wat_t, wat_o, s0, s1, s2, s3, w1, w2, bindT, sets, trB, truth, pre2, pre3, mid3, isL, isCmp, putO, slc, inC, wipeE, seq?, atI_0, atI_1, atI_2, atI_m, ixN_0, ixN_1, T.flat, teq, below, List.map_cons, List.map_nil, List.cons_append, List.nil_append, List.append_assoc, List.append_nil, List.length_cons, List.length_nil, List.length_append, List.length_set, List.length_map, List.getElem?_cons_zero, List.getElem?_cons_succ, List.set_cons_zero, List.set_cons_succ, List.set_set, List.replicate_succ, List.replicate_zero, Option.map_some, Option.map_none, if_true, if_false, ite_true, ite_false, if_false_right, Bool.false_eq_true, decide_eq_true_eq, Bool.and_eq_true, Bool.or_eq_true, Bool.true_or, Bool.false_or, Bool.or_false, Bool.true_and, Bool.and_true, Bool.and_false, Bool.false_and, Bool.not_true, Bool.not_false, Nat.add_zero, Nat.zero_add, true_and, and_true, eq_self, reduceCtorEq, and_self, Int.reduceNeg, Int.reduceEq, Int.reduceBEq, Int.reduceLT, Int.reduceLE, Int.reducePow, Int.reduceToNat, Int.reduceAdd, Int.reduceMul, Int.reduceMod, Int.reduceDiv, Int.reduceSub, Nat.reduceAdd, Nat.reduceSub, Nat.reduceLT, Nat.reduceLeDiff, Nat.reducePow, true_or, or_true, or_false, false_or, beq_iff_eq, RV.t.injEq, RV.o.injEq, T.int.injEq, T.str.injEq, T.bl.injEq, Option.some.injEq, ge_iff_le, gt_iff_lt, exists_eq_left', exists_eq_left, List.any_cons, List.any_nil, List.contains_cons, List.contains_nil, exB, String.reduceBEq, String.reduceEq, beq_self_eq_true, bne_self_eq_false, Bool.not_eq_true, Bool.not_eq_false, Tabs.G, List.lookup_cons, List.lookup_nil, Nat.add_assoc]
  refine wp_use (pen_ok (by omega) (by omega)) fun v S' ⟨c, m, e1, h1, e2⟩ => ?_
  subst e1 e2
  simp -implicitDefEqProofs only [hq, lq, lj, lh, wp_ok, wp_exc, wp_fail, wp_bind, wp_liftE, wp_noX, wp_ite, wp_var, wp_cst, wp_glb, wp_op0, wp_op1, wp_op2, wp_op3, wp_and, wp_or, wp_not, wp_iteE, wp_chain, wp_call, wp_tup, wp_lst, wp_dct, wp_comp, wp_nil, wp_cons, wt_and, wt_or, wt_not, wt_op2, wt_chain, wt_var, wt_cst, wt_op1, wt_call, wi_one, wi_two, asB_b, ws_ex, ws_asg, ws_sset, ws_ret, ws_ret0, ws_ite, ws_for, ws_whl, ws_raise, ws_try, tryP_nx, tryP_ret, tryP_exc, ws_cont, ws_brk, wb_nil, wb_cons, seqF_nx, seqF_ret, seqF_brk, seqF_cont, seqF_exc, endP_nx, endP_ret, endP_exc, fin_tree, fin_app, fin_app0, at_app0, at_app, at_lt, set_app0, set_app, set_lt, take_app, take_self, at_set, vw_t, vw_o, tree_frz, tree_lst, tree_dic, fz_t, fz_o, fzs_nil, fzs_cons, nrm_t, nrm_o, turnF_nx, turnF_cont, turnF_brk, turnF_ret, turnF_exc, stands_nil, stands_cons, wat_t, wat_o, s0, s1, s2, s3, w1, w2, bindT, sets, trB, truth, pre2, pre3, mid3, isL, isCmp, putO, slc, inC, wipeE, seq?, atI_0, atI_1, atI_2, atI_m, ixN_0, ixN_1, T.flat, teq, below, List.map_cons, List.map_nil, List.cons_append, List.nil_append, List.append_assoc, List.append_nil, List.length_cons, List.length_nil, List.length_append, List.length_set, List.length_map, List.getElem?_cons_zero, List.getElem?_cons_succ, List.set_cons_zero, List.set_cons_succ, List.set_set, List.replicate_succ, List.replicate_zero, Option.map_some, Option.map_none, if_true, if_false, ite_true, ite_false, if_false_right, Bool.false_eq_true, decide_eq_true_eq, Bool.and_eq_true, Bool.or_eq_true, Bool.true_or, Bool.false_or, Bool.or_false, Bool.true_and, Bool.and_true, Bool.and_false, Bool.false_and, Bool.not_true, Bool.not_false, Nat.add_zero, Nat.zero_add, true_and, and_true, eq_self, reduceCtorEq, and_self, Int.reduceNeg, Int.reduceEq, Int.reduceBEq, Int.reduceLT, Int.reduceLE, Int.reducePow, Int.reduceToNat, Int.reduceAdd, Int.reduceMul, Int.reduceMod, Int.reduceDiv, Int.reduceSub, Nat.reduceAdd, Nat.reduceSub, Nat.reduceLT, Nat.reduceLeDiff, Nat.reducePow, true_or, or_true, or_false, false_or, beq_iff_eq, RV.t.injEq, RV.o.injEq, T.int.injEq, T.str.injEq, T.bl.injEq, Option.some.injEq, ge_iff_le, gt_iff_lt, exists_eq_left', exists_eq_left, List.any_cons, List.any_nil, List.contains_cons, List.contains_nil, exB, String.reduceBEq, String.reduceEq, beq_self_eq_true, bne_self_eq_false, Bool.not_eq_true, Bool.not_eq_false, Tabs.G, List.lookup_cons, List.lookup_nil, Nat.add_assoc]
  refine wp_use (take_ok (p := B.length) (c := c) (m := m) (by simp -implicitDefEqProofs only [wp_ok, wp_exc, wp_fail, wp_bind, wp_liftE, wp_noX, wp_ite, wp_var, wp_cst, wp_glb, wp_op0, wp_op1, wp_op2, wp_op3, wp_and, wp_or, wp_not, wp_iteE, wp_chain, wp_call, wp_tup, wp_lst, wp_dct, wp_comp, wp_nil, wp_cons, wt_and, wt_or, wt_not, wt_op2, wt_chain, wt_var, wt_cst, wt_op1, wt_call, wi_one, wi_two, asB_b, ws_ex, ws_asg, ws_sset, ws_ret, ws_ret0, ws_ite, ws_for, ws_whl, ws_raise, ws_try, tryP_nx, tryP_ret, tryP_exc, ws_cont, ws_brk, wb_nil, wb_cons, seqF_nx, seqF_ret, seqF_brk, seqF_cont, seqF_exc, endP_nx, endP_ret, endP_exc, fin_tree, fin_app, fin_app0, at_app0, at_app, at_lt, set_app0, set_app, set_lt, take_app, take_self, at_set, vw_t, vw_o, tree_frz, tree_lst, tree_dic, fz_t, fz_o, fzs_nil, fzs_cons, nrm_t, nrm_o, turnF_nx, turnF_cont, turnF_brk, turnF_ret, turnF_exc, stands_nil, stands_cons, wat_t, wat_o, s0, s1, s2, s3, w1, w2, bindT, sets, trB, truth, pre2, pre3, mid3, isL, isCmp, putO, slc, inC, wipeE, seq?, atI_0, atI_1, atI_2, atI_m, ixN_0, ixN_1, T.flat, teq, below, List.map_cons, List.map_nil, List.cons_append, List.nil_append, List.append_assoc, List.append_nil, List.length_cons, List.length_nil, List.length_append, List.length_set, List.length_map, List.getElem?_cons_zero, List.getElem?_cons_succ, List.set_cons_zero, List.set_cons_succ, List.set_set, List.replicate_succ, List.replicate_zero, Option.map_some, Option.map_none, if_true, if_false, ite_true, ite_false, if_false_right, Bool.false_eq_true, decide_eq_true_eq, Bool.and_eq_true, Bool.or_eq_true, Bool.true_or, Bool.false_or, Bool.or_false, Bool.true_and, Bool.and_true, Bool.and_false, Bool.false_and, Bool.not_true, Bool.not_false, Nat.add_zero, Nat.zero_add, true_and, and_true, eq_self, reduceCtorEq, and_self, Int.reduceNeg, Int.reduceEq, Int.reduceBEq, Int.reduceLT, Int.reduceLE, Int.reducePow, Int.reduceToNat, Int.reduceAdd, Int.reduceMul, Int.reduceMod, Int.reduceDiv, Int.reduceSub, Nat.reduceAdd, Nat.reduceSub, Nat.reduceLT, Nat.reduceLeDiff, Nat.reducePow, true_or, or_true, or_false, false_or, beq_iff_eq, RV.t.injEq, RV.o.injEq, T.int.injEq, T.str.injEq, T.bl.injEq, Option.some.injEq, ge_iff_le, gt_iff_lt, exists_eq_left', exists_eq_left, List.any_cons, List.any_nil, List.contains_cons, List.contains_nil, exB, String.reduceBEq, String.reduceEq, beq_self_eq_true, bne_self_eq_false, Bool.not_eq_true, Bool.not_eq_false, Tabs.G, List.lookup_cons, List.lookup_nil, Nat.add_assoc]) h1 (by decide) (by decide)) fun v S' ⟨way, c1, m1, e1, w0, w1, h1, e2⟩ => ?_
  subst e1 e2
  have ew0 : eqT (T.int way) (T.int 0) = some (way == 0) := by simp -implicitDefEqProofs only [wp_ok, wp_exc, wp_fail, wp_bind, wp_liftE, wp_noX, wp_ite, wp_var, wp_cst, wp_glb, wp_op0, wp_op1, wp_op2, wp_op3, wp_and, wp_or, wp_not, wp_iteE, wp_chain, wp_call, wp_tup, wp_lst, wp_dct, wp_comp, wp_nil, wp_cons, wt_and, wt_or, wt_not, wt_op2, wt_chain, wt_var, wt_cst, wt_op1, wt_call, wi_one, wi_two, asB_b, ws_ex, ws_asg, ws_sset, ws_ret, ws_ret0, ws_ite, ws_for, ws_whl, ws_raise, ws_try, tryP_nx, tryP_ret, tryP_exc, ws_cont, ws_brk, wb_nil, wb_cons, seqF_nx, seqF_ret, seqF_brk, seqF_cont, seqF_exc, endP_nx, endP_ret, endP_exc, fin_tree, fin_app, fin_app0, at_app0, at_app, at_lt, set_app0, set_app, set_lt, take_app, take_self, at_set, vw_t, vw_o, tree_frz, tree_lst, tree_dic, fz_t, fz_o, fzs_nil, fzs_cons, nrm_t, nrm_o, turnF_nx, turnF_cont, turnF_brk, turnF_ret, turnF_exc, stands_nil, stands_cons, wat_t, wat_o, s0, s1, s2, s3, w1, w2, bindT, sets, trB, truth, pre2, pre3, mid3, isL, isCmp, putO, slc, inC, wipeE, seq?, atI_0, atI_1, atI_2, atI_m, ixN_0, ixN_1, scalT, T.flat, teq, eqT, eqD, below, T.ty, List.map_cons, List.map_nil, List.cons_append, List.nil_append, List.append_assoc, List.append_nil, List.length_cons, List.length_nil, List.length_append, List.length_set, List.length_map, List.getElem?_cons_zero, List.getElem?_cons_succ, List.set_cons_zero, List.set_cons_succ, List.set_set, List.replicate_succ, List.replicate_zero, Option.map_some, Option.map_none, if_true, if_false, ite_true, ite_false, if_false_right, Bool.false_eq_true, decide_eq_true_eq, Bool.and_eq_true, Bool.or_eq_true, Bool.true_or, Bool.false_or, Bool.or_false, Bool.true_and, Bool.and_true, Bool.and_false, Bool.false_and, Bool.not_true, Bool.not_false, Nat.add_zero, Nat.zero_add, true_and, and_true, eq_self, reduceCtorEq, and_self, Int.reduceNeg, Int.reduceEq, Int.reduceBEq, Int.reduceLT, Int.reduceLE, Int.reducePow, Int.reduceToNat, Int.reduceAdd, Int.reduceMul, Int.reduceMod, Int.reduceDiv, Int.reduceSub, Nat.reduceAdd, Nat.reduceSub, Nat.reduceLT, Nat.reduceLeDiff, Nat.reducePow, true_or, or_true, or_false, false_or, beq_iff_eq, RV.t.injEq, RV.o.injEq, T.int.injEq, T.str.injEq, T.bl.injEq, Option.some.injEq, ge_iff_le, gt_iff_lt, exists_eq_left', exists_eq_left, List.any_cons, List.any_nil, List.contains_cons, List.contains_nil, exB, String.reduceBEq, String.reduceEq, beq_self_eq_true, bne_self_eq_false, Bool.not_eq_true, Bool.not_eq_false, Tabs.G, List.lookup_cons, List.lookup_nil]
  have ew1 : eqT (T.int way) (T.int 1) = some (way == 1) := by simp -implicitDefEqProofs only [wp_ok, wp_exc, wp_fail, wp_bind, wp_liftE, wp_noX, wp_ite, wp_var, wp_cst, wp_glb, wp_op0, wp_op1, wp_op2, wp_op3, wp_and, wp_or, wp_not, wp_iteE, wp_chain, wp_call, wp_tup, wp_lst, wp_dct, wp_comp, wp_nil, wp_cons, wt_and, wt_or, wt_not, wt_op2, wt_chain, wt_var, wt_cst, wt_op1, wt_call, wi_one, wi_two, asB_b, ws_ex, ws_asg, ws_sset, ws_ret, ws_ret0, ws_ite, ws_for, ws_whl, ws_raise, ws_try, tryP_nx, tryP_ret, tryP_exc, ws_cont, ws_brk, wb_nil, wb_cons, seqF_nx, seqF_ret, seqF_brk, seqF_cont, seqF_exc, endP_nx, endP_ret, endP_exc, fin_tree, fin_app, fin_app0, at_app0, at_app, at_lt, set_app0, set_app, set_lt, take_app, take_self, at_set, vw_t, vw_o, tree_frz, tree_lst, tree_dic, fz_t, fz_o, fzs_nil, fzs_cons, nrm_t, nrm_o, turnF_nx, turnF_cont, turnF_brk, turnF_ret, turnF_exc, stands_nil, stands_cons, wat_t, wat_o, s0, s1, s2, s3, w1, w2, bindT, sets, trB, truth, pre2, pre3, mid3, isL, isCmp, putO, slc, inC, wipeE, seq?, atI_0, atI_1, atI_2, atI_m, ixN_0, ixN_1, scalT, T.flat, teq, eqT, eqD, below, T.ty, List.map_cons, List.map_nil, List.cons_append, List.nil_append, List.append_assoc, List.append_nil, List.length_cons, List.length_nil, List.length_append, List.length_set, List.length_map, List.getElem?_cons_zero, List.getElem?_cons_succ, List.set_cons_zero, List.set_cons_succ, List.set_set, List.replicate_succ, List.replicate_zero, Option.map_some, Option.map_none, if_true, if_false, ite_true, ite_false, if_false_right, Bool.false_eq_true, decide_eq_true_eq, Bool.and_eq_true, Bool.or_eq_true, Bool.true_or, Bool.false_or, Bool.or_false, Bool.true_and, Bool.and_true, Bool.and_false, Bool.false_and, Bool.not_true, Bool.not_false, Nat.add_zero, Nat.zero_add, true_and, and_true, eq_self, reduceCtorEq, and_self, Int.reduceNeg, Int.reduceEq, Int.reduceBEq, Int.reduceLT, Int.reduceLE, Int.reducePow, Int.reduceToNat, Int.reduceAdd, Int.reduceMul, Int.reduceMod, Int.reduceDiv, Int.reduceSub, Nat.reduceAdd, Nat.reduceSub, Nat.reduceLT, Nat.reduceLeDiff, Nat.reducePow, true_or, or_true, or_false, false_or, beq_iff_eq, RV.t.injEq, RV.o.injEq, T.int.injEq, T.str.injEq, T.bl.injEq, Option.some.injEq, ge_iff_le, gt_iff_lt, exists_eq_left', exists_eq_left, List.any_cons, List.any_nil, List.contains_cons, List.contains_nil, exB, String.reduceBEq, String.reduceEq, beq_self_eq_true, bne_self_eq_false, Bool.not_eq_true, Bool.not_eq_false, Tabs.G, List.lookup_cons, List.lookup_nil]
  simp -implicitDefEqProofs only [hq, lq, lj, lh, hj, hh, ew0, ew1, ll, eqi, wp_ok, wp_exc, wp_fail, wp_bind, wp_liftE, wp_noX, wp_ite, wp_var, wp_cst, wp_glb, wp_op0, wp_op1, wp_op2, wp_op3, wp_and, wp_or, wp_not, wp_iteE, wp_chain, wp_call, wp_tup, wp_lst, wp_dct, wp_comp, wp_nil, wp_cons, wt_and, wt_or, wt_not, wt_op2, wt_chain, wt_var, wt_cst, wt_op1, wt_call, wi_one, wi_two, asB_b, ws_ex, ws_asg, ws_sset, ws_ret, ws_ret0, ws_ite, ws_for, ws_whl, ws_raise, ws_try, tryP_nx, tryP_ret, tryP_exc, ws_cont, ws_brk, wb_nil, wb_cons, seqF_nx, seqF_ret, seqF_brk, seqF_cont, seqF_exc, endP_nx, endP_ret, endP_exc, fin_tree, fin_app, fin_app0, at_app0, at_app, at_lt, set_app0, set_app, set_lt, take_app, take_self, at_set, vw_t, vw_o, tree_frz, tree_lst, tree_dic, fz_t, fz_o, fzs_nil, fzs_cons, nrm_t, nrm_o, turnF_nx, turnF_cont, turnF_brk, turnF_ret, turnF_exc, stands_nil, stands_cons, wat_t, wat_o, s0, s1, s2, s3, w1, w2, bindT, sets, trB, truth, pre2, pre3, mid3, isL, isCmp, putO, slc, inC, wipeE, seq?, atI_0, atI_1, atI_2, atI_m, ixN_0, ixN_1, T.flat, teq, below, List.map_cons, List.map_nil, List.cons_append, List.nil_append, List.append_assoc, List.append_nil, List.length_cons, List.length_nil, List.length_append, List.length_set, List.length_map, List.getElem?_cons_zero, List.getElem?_cons_succ, List.set_cons_zero, List.set_cons_succ, List.set_set, List.replicate_succ, List.replicate_zero, Option.map_some, Option.map_none, if_true, if_false, ite_true, ite_false, if_false_right, Bool.false_eq_true, decide_eq_true_eq, Bool.and_eq_true, Bool.or_eq_true, Bool.true_or, Bool.false_or, Bool.or_false, Bool.true_and, Bool.and_true, Bool.and_false, Bool.false_and, Bool.not_true, Bool.not_false, Nat.add_zero, Nat.zero_add, true_and, and_true, eq_self, reduceCtorEq, and_self, Int.reduceNeg, Int.reduceEq, Int.reduceBEq, Int.reduceLT, Int.reduceLE, Int.reducePow, Int.reduceToNat, Int.reduceAdd, Int.reduceMul, Int.reduceMod, Int.reduceDiv, Int.reduceSub, Nat.reduceAdd, Nat.reduceSub, Nat.reduceLT, Nat.reduceLeDiff, Nat.reducePow, true_or, or_true, or_false, false_or, beq_iff_eq, RV.t.injEq, RV.o.injEq, T.int.injEq, T.str.injEq, T.bl.injEq, Option.some.injEq, ge_iff_le, gt_iff_lt, exists_eq_left', exists_eq_left, List.any_cons, List.any_nil, List.contains_cons, List.contains_nil, exB, String.reduceBEq, String.reduceEq, beq_self_eq_true, bne_self_eq_false, Bool.not_eq_true, Bool.not_eq_false, Tabs.G, List.lookup_cons, List.lookup_nil, Nat.add_assoc]
  have lq2 : ∀ G : Store, (B ++ .lst [.int c1, .int m1] :: G)[q]? = some (.lst (ss.map T.str)) := fun G => by simp -implicitDefEqProofs only [lq, hq, wp_ok, wp_exc, wp_fail, wp_bind, wp_liftE, wp_noX, wp_ite, wp_var, wp_cst, wp_glb, wp_op0, wp_op1, wp_op2, wp_op3, wp_and, wp_or, wp_not, wp_iteE, wp_chain, wp_call, wp_tup, wp_lst, wp_dct, wp_comp, wp_nil, wp_cons, wt_and, wt_or, wt_not, wt_op2, wt_chain, wt_var, wt_cst, wt_op1, wt_call, wi_one, wi_two, asB_b, ws_ex, ws_asg, ws_sset, ws_ret, ws_ret0, ws_ite, ws_for, ws_whl, ws_raise, ws_try, tryP_nx, tryP_ret, tryP_exc, ws_cont, ws_brk, wb_nil, wb_cons, seqF_nx, seqF_ret, seqF_brk, seqF_cont, seqF_exc, endP_nx, endP_ret, endP_exc, fin_tree, fin_app, fin_app0, at_app0, at_app, at_lt, set_app0, set_app, set_lt, take_app, take_self, at_set, vw_t, vw_o, tree_frz, tree_lst, tree_dic, fz_t, fz_o, fzs_nil, fzs_cons, nrm_t, nrm_o, turnF_nx, turnF_cont, turnF_brk, turnF_ret, turnF_exc, stands_nil, stands_cons, wat_t, wat_o, s0, s1, s2, s3, w1, w2, bindT, sets, trB, truth, pre2, pre3, mid3, isL, isCmp, putO, slc, inC, wipeE, seq?, atI_0, atI_1, atI_2, atI_m, ixN_0, ixN_1, T.flat, teq, below, List.map_cons, List.map_nil, List.cons_append, List.nil_append, List.append_assoc, List.append_nil, List.length_cons, List.length_nil, List.length_append, List.length_set, List.length_map, List.getElem?_cons_zero, List.getElem?_cons_succ, List.set_cons_zero, List.set_cons_succ, List.set_set, List.replicate_succ, List.replicate_zero, Option.map_some, Option.map_none, if_true, if_false, ite_true, ite_false, if_false_right, Bool.false_eq_true, decide_eq_true_eq, Bool.and_eq_true, Bool.or_eq_true, Bool.true_or, Bool.false_or, Bool.or_false, Bool.true_and, Bool.and_true, Bool.and_false, Bool.false_and, Bool.not_true, Bool.not_false, Nat.add_zero, Nat.zero_add, true_and, and_true, eq_self, reduceCtorEq, and_self, Int.reduceNeg, Int.reduceEq, Int.reduceBEq, Int.reduceLT, Int.reduceLE, Int.reducePow, Int.reduceToNat, Int.reduceAdd, Int.reduceMul, Int.reduceMod, Int.reduceDiv, Int.reduceSub, Nat.reduceAdd, Nat.reduceSub, Nat.reduceLT, Nat.reduceLeDiff, Nat.reducePow, true_or, or_true, or_false, false_or, beq_iff_eq, RV.t.injEq, RV.o.injEq, T.int.injEq, T.str.injEq, T.bl.injEq, Option.some.injEq, ge_iff_le, gt_iff_lt, exists_eq_left', exists_eq_left, List.any_cons, List.any_nil, List.contains_cons, List.contains_nil, exB, String.reduceBEq, String.reduceEq, beq_self_eq_true, bne_self_eq_false, Bool.not_eq_true, Bool.not_eq_false, Tabs.G, List.lookup_cons, List.lookup_nil, Nat.add_assoc]
  have lj2 : ∀ G : Store, (B ++ .lst [.int c1, .int m1] :: G)[j]? = some (.lst (l.map stT)) := fun G => by simp -implicitDefEqProofs only [lj, hj, wp_ok, wp_exc, wp_fail, wp_bind, wp_liftE, wp_noX, wp_ite, wp_var, wp_cst, wp_glb, wp_op0, wp_op1, wp_op2, wp_op3, wp_and, wp_or, wp_not, wp_iteE, wp_chain, wp_call, wp_tup, wp_lst, wp_dct, wp_comp, wp_nil, wp_cons, wt_and, wt_or, wt_not, wt_op2, wt_chain, wt_var, wt_cst, wt_op1, wt_call, wi_one, wi_two, asB_b, ws_ex, ws_asg, ws_sset, ws_ret, ws_ret0, ws_ite, ws_for, ws_whl, ws_raise, ws_try, tryP_nx, tryP_ret, tryP_exc, ws_cont, ws_brk, wb_nil, wb_cons, seqF_nx, seqF_ret, seqF_brk, seqF_cont, seqF_exc, endP_nx, endP_ret, endP_exc, fin_tree, fin_app, fin_app0, at_app0, at_app, at_lt, set_app0, set_app, set_lt, take_app, take_self, at_set, vw_t, vw_o, tree_frz, tree_lst, tree_dic, fz_t, fz_o, fzs_nil, fzs_cons, nrm_t, nrm_o, turnF_nx, turnF_cont, turnF_brk, turnF_ret, turnF_exc, stands_nil, stands_cons, wat_t, wat_o, s0, s1, s2, s3, w1, w2, bindT, sets, trB, truth, pre2, pre3, mid3, isL, isCmp, putO, slc, inC, wipeE, seq?, atI_0, atI_1, atI_2, atI_m, ixN_0, ixN_1, T.flat, teq, below, List.map_cons, List.map_nil, List.cons_append, List.nil_append, List.append_assoc, List.append_nil, List.length_cons, List.length_nil, List.length_append, List.length_set, List.length_map, List.getElem?_cons_zero, List.getElem?_cons_succ, List.set_cons_zero, List.set_cons_succ, List.set_set, List.replicate_succ, List.replicate_zero, Option.map_some, Option.map_none, if_true, if_false, ite_true, ite_false, if_false_right, Bool.false_eq_true, decide_eq_true_eq, Bool.and_eq_true, Bool.or_eq_true, Bool.true_or, Bool.false_or, Bool.or_false, Bool.true_and, Bool.and_true, Bool.and_false, Bool.false_and, Bool.not_true, Bool.not_false, Nat.add_zero, Nat.zero_add, true_and, and_true, eq_self, reduceCtorEq, and_self, Int.reduceNeg, Int.reduceEq, Int.reduceBEq, Int.reduceLT, Int.reduceLE, Int.reducePow, Int.reduceToNat, Int.reduceAdd, Int.reduceMul, Int.reduceMod, Int.reduceDiv, Int.reduceSub, Nat.reduceAdd, Nat.reduceSub, Nat.reduceLT, Nat.reduceLeDiff, Nat.reducePow, true_or, or_true, or_false, false_or, beq_iff_eq, RV.t.injEq, RV.o.injEq, T.int.injEq, T.str.injEq, T.bl.injEq, Option.some.injEq, ge_iff_le, gt_iff_lt, exists_eq_left', exists_eq_left, List.any_cons, List.any_nil, List.contains_cons, List.contains_nil, exB, String.reduceBEq, String.reduceEq, beq_self_eq_true, bne_self_eq_false, Bool.not_eq_true, Bool.not_eq_false, Tabs.G, List.lookup_cons, List.lookup_nil, Nat.add_assoc]
  have lh2 : ∀ G : Store, (B ++ .lst [.int c1, .int m1] :: G)[h]? = some (.lst (hs.map hT)) := fun G => by simp -implicitDefEqProofs only [lh, hh, wp_ok, wp_exc, wp_fail, wp_bind, wp_liftE, wp_noX, wp_ite, wp_var, wp_cst, wp_glb, wp_op0, wp_op1, wp_op2, wp_op3, wp_and, wp_or, wp_not, wp_iteE, wp_chain, wp_call, wp_tup, wp_lst, wp_dct, wp_comp, wp_nil, wp_cons, wt_and, wt_or, wt_not, wt_op2, wt_chain, wt_var, wt_cst, wt_op1, wt_call, wi_one, wi_two, asB_b, ws_ex, ws_asg, ws_sset, ws_ret, ws_ret0, ws_ite, ws_for, ws_whl, ws_raise, ws_try, tryP_nx, tryP_ret, tryP_exc, ws_cont, ws_brk, wb_nil, wb_cons, seqF_nx, seqF_ret, seqF_brk, seqF_cont, seqF_exc, endP_nx, endP_ret, endP_exc, fin_tree, fin_app, fin_app0, at_app0, at_app, at_lt, set_app0, set_app, set_lt, take_app, take_self, at_set, vw_t, vw_o, tree_frz, tree_lst, tree_dic, fz_t, fz_o, fzs_nil, fzs_cons, nrm_t, nrm_o, turnF_nx, turnF_cont, turnF_brk, turnF_ret, turnF_exc, stands_nil, stands_cons, wat_t, wat_o, s0, s1, s2, s3, w1, w2, bindT, sets, trB, truth, pre2, pre3, mid3, isL, isCmp, putO, slc, inC, wipeE, seq?, atI_0, atI_1, atI_2, atI_m, ixN_0, ixN_1, T.flat, teq, below, List.map_cons, List.map_nil, List.cons_append, List.nil_append, List.append_assoc, List.append_nil, List.length_cons, List.length_nil, List.length_append, List.length_set, List.length_map, List.getElem?_cons_zero, List.getElem?_cons_succ, List.set_cons_zero, List.set_cons_succ, List.set_set, List.replicate_succ, List.replicate_zero, Option.map_some, Option.map_none, if_true, if_false, ite_true, ite_false, if_false_right, Bool.false_eq_true, decide_eq_true_eq, Bool.and_eq_true, Bool.or_eq_true, Bool.true_or, Bool.false_or, Bool.or_false, Bool.true_and, Bool.and_true, Bool.and_false, Bool.false_and, Bool.not_true, Bool.not_false, Nat.add_zero, Nat.zero_add, true_and, and_true, eq_self, reduceCtorEq, and_self, Int.reduceNeg, Int.reduceEq, Int.reduceBEq, Int.reduceLT, Int.reduceLE, Int.reducePow, Int.reduceToNat, Int.reduceAdd, Int.reduceMul, Int.reduceMod, Int.reduceDiv, Int.reduceSub, Nat.reduceAdd, Nat.reduceSub, Nat.reduceLT, Nat.reduceLeDiff, Nat.reducePow, true_or, or_true, or_false, false_or, beq_iff_eq, RV.t.injEq, RV.o.injEq, T.int.injEq, T.str.injEq, T.bl.injEq, Option.some.injEq, ge_iff_le, gt_iff_lt, exists_eq_left', exists_eq_left, List.any_cons, List.any_nil, List.contains_cons, List.contains_nil, exB, String.reduceBEq, String.reduceEq, beq_self_eq_true, bne_self_eq_false, Bool.not_eq_true, Bool.not_eq_false, Tabs.G, List.lookup_cons, List.lookup_nil, Nat.add_assoc]
  have lp2 : ∀ G : Store, (B ++ .lst [.int c1, .int m1] :: G)[B.length]? = some (.lst [.int c1, .int m1]) := fun G => by simp -implicitDefEqProofs only [wp_ok, wp_exc, wp_fail, wp_bind, wp_liftE, wp_noX, wp_ite, wp_var, wp_cst, wp_glb, wp_op0, wp_op1, wp_op2, wp_op3, wp_and, wp_or, wp_not, wp_iteE, wp_chain, wp_call, wp_tup, wp_lst, wp_dct, wp_comp, wp_nil, wp_cons, wt_and, wt_or, wt_not, wt_op2, wt_chain, wt_var, wt_cst, wt_op1, wt_call, wi_one, wi_two, asB_b, ws_ex, ws_asg, ws_sset, ws_ret, ws_ret0, ws_ite, ws_for, ws_whl, ws_raise, ws_try, tryP_nx, tryP_ret, tryP_exc, ws_cont, ws_brk, wb_nil, wb_cons, seqF_nx, seqF_ret, seqF_brk, seqF_cont, seqF_exc, endP_nx, endP_ret, endP_exc, fin_tree, fin_app, fin_app0, at_app0, at_app, at_lt, set_app0, set_app, set_lt, take_app, take_self, at_set, vw_t, vw_o, tree_frz, tree_lst, tree_dic, fz_t, fz_o, fzs_nil, fzs_cons, nrm_t, nrm_o, turnF_nx, turnF_cont, turnF_brk, turnF_ret, turnF_exc, stands_nil, stands_cons, wat_t, wat_o, s0, s1, s2, s3, w1, w2, bindT, sets, trB, truth, pre2, pre3, mid3, isL, isCmp, putO, slc, inC, wipeE, seq?, atI_0, atI_1, atI_2, atI_m, ixN_0, ixN_1, T.flat, teq, below, List.map_cons, List.map_nil, List.cons_append, List.nil_append, List.append_assoc, List.append_nil, List.length_cons, List.length_nil, List.length_append, List.length_set, List.length_map, List.getElem?_cons_zero, List.getElem?_cons_succ, List.set_cons_zero, List.set_cons_succ, List.set_set, List.replicate_succ, List.replicate_zero, Option.map_some, Option.map_none, if_true, if_false, ite_true, ite_false, if_false_right, Bool.false_eq_true, decide_eq_true_eq, Bool.and_eq_true, Bool.or_eq_true, Bool.true_or, Bool.false_or, Bool.or_false, Bool.true_and, Bool.and_true, Bool.and_false, Bool.false_and, Bool.not_true, Bool.not_false, Nat.add_zero, Nat.zero_add, true_and, and_true, eq_self, reduceCtorEq, and_self, Int.reduceNeg, Int.reduceEq, Int.reduceBEq, Int.reduceLT, Int.reduceLE, Int.reducePow, Int.reduceToNat, Int.reduceAdd, Int.reduceMul, Int.reduceMod, Int.reduceDiv, Int.reduceSub, Nat.reduceAdd, Nat.reduceSub, Nat.reduceLT, Nat.reduceLeDiff, Nat.reducePow, true_or, or_true, or_false, false_or, beq_iff_eq, RV.t.injEq, RV.o.injEq, T.int.injEq, T.str.injEq, T.bl.injEq, Option.some.injEq, ge_iff_le, gt_iff_lt, exists_eq_left', exists_eq_left, List.any_cons, List.any_nil, List.contains_cons, List.contains_nil, exB, String.reduceBEq, String.reduceEq, beq_self_eq_true, bne_self_eq_false, Bool.not_eq_true, Bool.not_eq_false, Tabs.G, List.lookup_cons, List.lookup_nil, Nat.add_assoc]
  have odd : ∀ G : Store, (exes tabs.G (callF tabs.G tabs.Δ (k + 4)) oddB [some (.t (.rol (ns.map T.int))), some (.o q), some (.t (.tup (l.map stT))), some (.o j), some (.o h), some (.t (.int (0 + (i : Int)))), some (.o B.length), some (.t (.int way)), a8, a9, a10, a11] (B ++ .lst [.int c1, .int m1] :: G)).wp (seqF tabs.G (callF tabs.G tabs.Δ (k + 4)) Ss.nil (seqF tabs.G (callF tabs.G tabs.Δ (k + 4)) tail3 PF E) nE) nE := fun G =>
    odd_br (lp2 G) h1 (lq2 G) (lj2 G) (lh2 G) (by omega) (by omega) (by omega) hl hst fun l' b10 b11 S' h1 h2 h3 h4 h5 => by
      simp -implicitDefEqProofs only [wp_ok, wp_exc, wp_fail, wp_bind, wp_liftE, wp_noX, wp_ite, wp_var, wp_cst, wp_glb, wp_op0, wp_op1, wp_op2, wp_op3, wp_and, wp_or, wp_not, wp_iteE, wp_chain, wp_call, wp_tup, wp_lst, wp_dct, wp_comp, wp_nil, wp_cons, wt_and, wt_or, wt_not, wt_op2, wt_chain, wt_var, wt_cst, wt_op1, wt_call, wi_one, wi_two, asB_b, ws_ex, ws_asg, ws_sset, ws_ret, ws_ret0, ws_ite, ws_for, ws_whl, ws_raise, ws_try, tryP_nx, tryP_ret, tryP_exc, ws_cont, ws_brk, wb_nil, wb_cons, seqF_nx, seqF_ret, seqF_brk, seqF_cont, seqF_exc, endP_nx, endP_ret, endP_exc, fin_tree, fin_app, fin_app0, at_app0, at_app, at_lt, set_app0, set_app, set_lt, take_app, take_self, at_set, vw_t, vw_o, tree_frz, tree_lst, tree_dic, fz_t, fz_o, fzs_nil, fzs_cons, nrm_t, nrm_o, turnF_nx, turnF_cont, turnF_brk, turnF_ret, turnF_exc, stands_nil, stands_cons, wat_t, wat_o, s0, s1, s2, s3, w1, w2, bindT, sets, trB, truth, pre2, pre3, mid3, isL, isCmp, putO, slc, inC, wipeE, seq?, atI_0, atI_1, atI_2, atI_m, ixN_0, ixN_1, T.flat, teq, below, List.map_cons, List.map_nil, List.cons_append, List.nil_append, List.append_assoc, List.append_nil, List.length_cons, List.length_nil, List.length_append, List.length_set, List.length_map, List.getElem?_cons_zero, List.getElem?_cons_succ, List.set_cons_zero, List.set_cons_succ, List.set_set, List.replicate_succ, List.replicate_zero, Option.map_some, Option.map_none, if_true, if_false, ite_true, ite_false, if_false_right, Bool.false_eq_true, decide_eq_true_eq, Bool.and_eq_true, Bool.or_eq_true, Bool.true_or, Bool.false_or, Bool.or_false, Bool.true_and, Bool.and_true, Bool.and_false, Bool.false_and, Bool.not_true, Bool.not_false, Nat.add_zero, Nat.zero_add, true_and, and_true, eq_self, reduceCtorEq, and_self, Int.reduceNeg, Int.reduceEq, Int.reduceBEq, Int.reduceLT, Int.reduceLE, Int.reducePow, Int.reduceToNat, Int.reduceAdd, Int.reduceMul, Int.reduceMod, Int.reduceDiv, Int.reduceSub, Nat.reduceAdd, Nat.reduceSub, Nat.reduceLT, Nat.reduceLeDiff, Nat.reducePow, true_or, or_true, or_false, false_or, beq_iff_eq, RV.t.injEq, RV.o.injEq, T.int.injEq, T.str.injEq, T.bl.injEq, Option.some.injEq, ge_iff_le, gt_iff_lt, exists_eq_left', exists_eq_left, List.any_cons, List.any_nil, List.contains_cons, List.contains_nil, exB, String.reduceBEq, String.reduceEq, beq_self_eq_true, bne_self_eq_false, Bool.not_eq_true, Bool.not_eq_false, Tabs.G, List.lookup_cons, List.lookup_nil, Nat.add_assoc]
      exact next _ _ _ _ _ _ _ _ h1 h2 h3 h4 h5
  have put : l.length < 24 → ∀ G : Store, (exes tabs.G (callF tabs.G tabs.Δ (k + 4)) putB [some (.t (.rol (ns.map T.int))), some (.o q), some (.t (.tup (l.map stT))), some (.o j), some (.o h), some (.t (.int (0 + (i : Int)))), some (.o B.length), some (.t (.int way)), a8, a9, a10, a11] (B ++ .lst [.int c1, .int m1] :: G)).wp (seqF tabs.G (callF tabs.G tabs.Δ (k + 4)) Ss.nil (seqF tabs.G (callF tabs.G tabs.Δ (k + 4)) tail3 PF E) nE) nE := fun hl2 G =>
    put_br (lp2 G) h1 (lq2 G) (lj2 G) (lh2 G) (by omega) (by omega) (by omega) hjh hjq hl2 hst hss h0 fun l' b10 b11 S' h1 h2 h3 h4 h5 => by
      simp -implicitDefEqProofs only [wp_ok, wp_exc, wp_fail, wp_bind, wp_liftE, wp_noX, wp_ite, wp_var, wp_cst, wp_glb, wp_op0, wp_op1, wp_op2, wp_op3, wp_and, wp_or, wp_not, wp_iteE, wp_chain, wp_call, wp_tup, wp_lst, wp_dct, wp_comp, wp_nil, wp_cons, wt_and, wt_or, wt_not, wt_op2, wt_chain, wt_var, wt_cst, wt_op1, wt_call, wi_one, wi_two, asB_b, ws_ex, ws_asg, ws_sset, ws_ret, ws_ret0, ws_ite, ws_for, ws_whl, ws_raise, ws_try, tryP_nx, tryP_ret, tryP_exc, ws_cont, ws_brk, wb_nil, wb_cons, seqF_nx, seqF_ret, seqF_brk, seqF_cont, seqF_exc, endP_nx, endP_ret, endP_exc, fin_tree, fin_app, fin_app0, at_app0, at_app, at_lt, set_app0, set_app, set_lt, take_app, take_self, at_set, vw_t, vw_o, tree_frz, tree_lst, tree_dic, fz_t, fz_o, fzs_nil, fzs_cons, nrm_t, nrm_o, turnF_nx, turnF_cont, turnF_brk, turnF_ret, turnF_exc, stands_nil, stands_cons, wat_t, wat_o, s0, s1, s2, s3, w1, w2, bindT, sets, trB, truth, pre2, pre3, mid3, isL, isCmp, putO, slc, inC, wipeE, seq?, atI_0, atI_1, atI_2, atI_m, ixN_0, ixN_1, T.flat, teq, below, List.map_cons, List.map_nil, List.cons_append, List.nil_append, List.append_assoc, List.append_nil, List.length_cons, List.length_nil, List.length_append, List.length_set, List.length_map, List.getElem?_cons_zero, List.getElem?_cons_succ, List.set_cons_zero, List.set_cons_succ, List.set_set, List.replicate_succ, List.replicate_zero, Option.map_some, Option.map_none, if_true, if_false, ite_true, ite_false, if_false_right, Bool.false_eq_true, decide_eq_true_eq, Bool.and_eq_true, Bool.or_eq_true, Bool.true_or, Bool.false_or, Bool.or_false, Bool.true_and, Bool.and_true, Bool.and_false, Bool.false_and, Bool.not_true, Bool.not_false, Nat.add_zero, Nat.zero_add, true_and, and_true, eq_self, reduceCtorEq, and_self, Int.reduceNeg, Int.reduceEq, Int.reduceBEq, Int.reduceLT, Int.reduceLE, Int.reducePow, Int.reduceToNat, Int.reduceAdd, Int.reduceMul, Int.reduceMod, Int.reduceDiv, Int.reduceSub, Nat.reduceAdd, Nat.reduceSub, Nat.reduceLT, Nat.reduceLeDiff, Nat.reducePow, true_or, or_true, or_false, false_or, beq_iff_eq, RV.t.injEq, RV.o.injEq, T.int.injEq, T.str.injEq, T.bl.injEq, Option.some.injEq, ge_iff_le, gt_iff_lt, exists_eq_left', exists_eq_left, List.any_cons, List.any_nil, List.contains_cons, List.contains_nil, exB, String.reduceBEq, String.reduceEq, beq_self_eq_true, bne_self_eq_false, Bool.not_eq_true, Bool.not_eq_false, Tabs.G, List.lookup_cons, List.lookup_nil, Nat.add_assoc]
      exact next _ _ _ _ _ _ _ _ h1 h2 h3 h4 h5
  have rest : ∀ G : Store, if way = 1 then (exes tabs.G (callF tabs.G tabs.Δ (k + 4)) oddB [some (.t (.rol (ns.map T.int))), some (.o q), some (.t (.tup (l.map stT))), some (.o j), some (.o h), some (.t (.int (0 + (i : Int)))), some (.o B.length), some (.t (.int way)), a8, a9, a10, a11] (B ++ .lst [.int c1, .int m1] :: G)).wp (seqF tabs.G (callF tabs.G tabs.Δ (k + 4)) Ss.nil (seqF tabs.G (callF tabs.G tabs.Δ (k + 4)) tail3 PF E) nE) nE
      else if (l.length : Int) = 24 then (exes tabs.G (callF tabs.G tabs.Δ (k + 4)) oddB [some (.t (.rol (ns.map T.int))), some (.o q), some (.t (.tup (l.map stT))), some (.o j), some (.o h), some (.t (.int (0 + (i : Int)))), some (.o B.length), some (.t (.int way)), a8, a9, a10, a11] (B ++ .lst [.int c1, .int m1] :: G)).wp (seqF tabs.G (callF tabs.G tabs.Δ (k + 4)) Ss.nil (seqF tabs.G (callF tabs.G tabs.Δ (k + 4)) tail3 PF E) nE) nE
      else (exes tabs.G (callF tabs.G tabs.Δ (k + 4)) putB [some (.t (.rol (ns.map T.int))), some (.o q), some (.t (.tup (l.map stT))), some (.o j), some (.o h), some (.t (.int (0 + (i : Int)))), some (.o B.length), some (.t (.int way)), a8, a9, a10, a11] (B ++ .lst [.int c1, .int m1] :: G)).wp (seqF tabs.G (callF tabs.G tabs.Δ (k + 4)) Ss.nil (seqF tabs.G (callF tabs.G tabs.Δ (k + 4)) tail3 PF E) nE) nE := by
    intro G
    split
    · exact odd G
    · split
      · exact odd G
      · exact put (by omega) G
  split
  · split
    · rename_i hne
      have hne : 0 < l.length := by
        cases l with
        | nil => simp [teqs] at hne
        | cons _ _ => simp
      refine pop_br (lp2 _) h1 (lq2 _) (lj2 _) (lh2 _) (by omega) (by omega) (by omega) hjh hjq hl hst hne fun l' b10 b11 S' h1 h2 h3 h4 h5 => ?_
      simp -implicitDefEqProofs only [wp_ok, wp_exc, wp_fail, wp_bind, wp_liftE, wp_noX, wp_ite, wp_var, wp_cst, wp_glb, wp_op0, wp_op1, wp_op2, wp_op3, wp_and, wp_or, wp_not, wp_iteE, wp_chain, wp_call, wp_tup, wp_lst, wp_dct, wp_comp, wp_nil, wp_cons, wt_and, wt_or, wt_not, wt_op2, wt_chain, wt_var, wt_cst, wt_op1, wt_call, wi_one, wi_two, asB_b, ws_ex, ws_asg, ws_sset, ws_ret, ws_ret0, ws_ite, ws_for, ws_whl, ws_raise, ws_try, tryP_nx, tryP_ret, tryP_exc, ws_cont, ws_brk, wb_nil, wb_cons, seqF_nx, seqF_ret, seqF_brk, seqF_cont, seqF_exc, endP_nx, endP_ret, endP_exc, fin_tree, fin_app, fin_app0, at_app0, at_app, at_lt, set_app0, set_app, set_lt, take_app, take_self, at_set, vw_t, vw_o, tree_frz, tree_lst, tree_dic, fz_t, fz_o, fzs_nil, fzs_cons, nrm_t, nrm_o, turnF_nx, turnF_cont, turnF_brk, turnF_ret, turnF_exc, stands_nil, stands_cons, wat_t, wat_o, s0, s1, s2, s3, w1, w2, bindT, sets, trB, truth, pre2, pre3, mid3, isL, isCmp, putO, slc, inC, wipeE, seq?, atI_0, atI_1, atI_2, atI_m, ixN_0, ixN_1, T.flat, teq, below, List.map_cons, List.map_nil, List.cons_append, List.nil_append, List.append_assoc, List.append_nil, List.length_cons, List.length_nil, List.length_append, List.length_set, List.length_map, List.getElem?_cons_zero, List.getElem?_cons_succ, List.set_cons_zero, List.set_cons_succ, List.set_set, List.replicate_succ, List.replicate_zero, Option.map_some, Option.map_none, if_true, if_false, ite_true, ite_false, if_false_right, Bool.false_eq_true, decide_eq_true_eq, Bool.and_eq_true, Bool.or_eq_true, Bool.true_or, Bool.false_or, Bool.or_false, Bool.true_and, Bool.and_true, Bool.and_false, Bool.false_and, Bool.not_true, Bool.not_false, Nat.add_zero, Nat.zero_add, true_and, and_true, eq_self, reduceCtorEq, and_self, Int.reduceNeg, Int.reduceEq, Int.reduceBEq, Int.reduceLT, Int.reduceLE, Int.reducePow, Int.reduceToNat, Int.reduceAdd, Int.reduceMul, Int.reduceMod, Int.reduceDiv, Int.reduceSub, Nat.reduceAdd, Nat.reduceSub, Nat.reduceLT, Nat.reduceLeDiff, Nat.reducePow, true_or, or_true, or_false, false_or, beq_iff_eq, RV.t.injEq, RV.o.injEq, T.int.injEq, T.str.injEq, T.bl.injEq, Option.some.injEq, ge_iff_le, gt_iff_lt, exists_eq_left', exists_eq_left, List.any_cons, List.any_nil, List.contains_cons, List.contains_nil, exB, String.reduceBEq, String.reduceEq, beq_self_eq_true, bne_self_eq_false, Bool.not_eq_true, Bool.not_eq_false, Tabs.G, List.lookup_cons, List.lookup_nil, Nat.add_assoc]
      exact next _ _ _ _ _ _ _ _ h1 h2 h3 h4 h5
    · exact rest _
  · exact rest _
theorem law_ok {k : Nat} {S : Store} {ns : List Int} (hl : ns.length ≤ 63) :
    (C (k + 5) "law" [.t (.rol (ns.map T.int))] S).wp (fun v _ => v = .t (.bl true)) nE := by
  refine wp_fn d_f_law rfl ?_
  simp -implicitDefEqProofs only [f_law, wp_ok, wp_exc, wp_fail, wp_bind, wp_liftE, wp_noX, wp_ite, wp_var, wp_cst, wp_glb, wp_op0, wp_op1, wp_op2, wp_op3, wp_and, wp_or, wp_not, wp_iteE, wp_chain, wp_call, wp_tup, wp_lst, wp_dct, wp_comp, wp_nil, wp_cons, wt_and, wt_or, wt_not, wt_op2, wt_chain, wt_var, wt_cst, wt_op1, wt_call, wi_one, wi_two, asB_b, ws_ex, ws_asg, ws_sset, ws_ret, ws_ret0, ws_ite, ws_for, ws_whl, ws_raise, ws_try, tryP_nx, tryP_ret, tryP_exc, ws_cont, ws_brk, wb_nil, wb_cons, seqF_nx, seqF_ret, seqF_brk, seqF_cont, seqF_exc, endP_nx, endP_ret, endP_exc, fin_tree, fin_app, fin_app0, at_app0, at_app, at_lt, set_app0, set_app, set_lt, take_app, take_self, at_set, vw_t, vw_o, tree_frz, tree_lst, tree_dic, fz_t, fz_o, fzs_nil, fzs_cons, nrm_t, nrm_o, turnF_nx, turnF_cont, turnF_brk, turnF_ret, turnF_exc, stands_nil, stands_cons, wat_t, wat_o, s0, s1, s2, s3, w1, w2, bindT, sets, trB, truth, pre2, pre3, mid3, isL, isCmp, putO, slc, inC, wipeE, seq?, atI_0, atI_1, atI_2, atI_m, ixN_0, ixN_1, T.flat, teq, below, List.map_cons, List.map_nil, List.cons_append, List.nil_append, List.append_assoc, List.append_nil, List.length_cons, List.length_nil, List.length_append, List.length_set, List.length_map, List.getElem?_cons_zero, List.getElem?_cons_succ, List.set_cons_zero, List.set_cons_succ, List.set_set, List.replicate_succ, List.replicate_zero, Option.map_some, Option.map_none, if_true, if_false, ite_true, ite_false, if_false_right, Bool.false_eq_true, decide_eq_true_eq, Bool.and_eq_true, Bool.or_eq_true, Bool.true_or, Bool.false_or, Bool.or_false, Bool.true_and, Bool.and_true, Bool.and_false, Bool.false_and, Bool.not_true, Bool.not_false, Nat.add_zero, Nat.zero_add, true_and, and_true, eq_self, reduceCtorEq, and_self, Int.reduceNeg, Int.reduceEq, Int.reduceBEq, Int.reduceLT, Int.reduceLE, Int.reducePow, Int.reduceToNat, Int.reduceAdd, Int.reduceMul, Int.reduceMod, Int.reduceDiv, Int.reduceSub, Nat.reduceAdd, Nat.reduceSub, Nat.reduceLT, Nat.reduceLeDiff, Nat.reducePow, true_or, or_true, or_false, false_or, beq_iff_eq, RV.t.injEq, RV.o.injEq, T.int.injEq, T.str.injEq, T.bl.injEq, Option.some.injEq, ge_iff_le, gt_iff_lt, exists_eq_left', exists_eq_left, List.any_cons, List.any_nil, List.contains_cons, List.contains_nil, exB, String.reduceBEq, String.reduceEq, beq_self_eq_true, bne_self_eq_false, Bool.not_eq_true, Bool.not_eq_false, Tabs.G, List.lookup_cons, List.lookup_nil, Nat.add_assoc]
  refine wp_use (pen_ok (by decide) (by decide)) fun v S' ⟨c, m, e1, h1, e2⟩ => ?_
  subst e1 e2
  refine wp_use (names_ok (n := 4) (c := c) (m := m) (by simp -implicitDefEqProofs only [wp_ok, wp_exc, wp_fail, wp_bind, wp_liftE, wp_noX, wp_ite, wp_var, wp_cst, wp_glb, wp_op0, wp_op1, wp_op2, wp_op3, wp_and, wp_or, wp_not, wp_iteE, wp_chain, wp_call, wp_tup, wp_lst, wp_dct, wp_comp, wp_nil, wp_cons, wt_and, wt_or, wt_not, wt_op2, wt_chain, wt_var, wt_cst, wt_op1, wt_call, wi_one, wi_two, asB_b, ws_ex, ws_asg, ws_sset, ws_ret, ws_ret0, ws_ite, ws_for, ws_whl, ws_raise, ws_try, tryP_nx, tryP_ret, tryP_exc, ws_cont, ws_brk, wb_nil, wb_cons, seqF_nx, seqF_ret, seqF_brk, seqF_cont, seqF_exc, endP_nx, endP_ret, endP_exc, fin_tree, fin_app, fin_app0, at_app0, at_app, at_lt, set_app0, set_app, set_lt, take_app, take_self, at_set, vw_t, vw_o, tree_frz, tree_lst, tree_dic, fz_t, fz_o, fzs_nil, fzs_cons, nrm_t, nrm_o, turnF_nx, turnF_cont, turnF_brk, turnF_ret, turnF_exc, stands_nil, stands_cons, wat_t, wat_o, s0, s1, s2, s3, w1, w2, bindT, sets, trB, truth, pre2, pre3, mid3, isL, isCmp, putO, slc, inC, wipeE, seq?, atI_0, atI_1, atI_2, atI_m, ixN_0, ixN_1, T.flat, teq, below, List.map_cons, List.map_nil, List.cons_append, List.nil_append, List.append_assoc, List.append_nil, List.length_cons, List.length_nil, List.length_append, List.length_set, List.length_map, List.getElem?_cons_zero, List.getElem?_cons_succ, List.set_cons_zero, List.set_cons_succ, List.set_set, List.replicate_succ, List.replicate_zero, Option.map_some, Option.map_none, if_true, if_false, ite_true, ite_false, if_false_right, Bool.false_eq_true, decide_eq_true_eq, Bool.and_eq_true, Bool.or_eq_true, Bool.true_or, Bool.false_or, Bool.or_false, Bool.true_and, Bool.and_true, Bool.and_false, Bool.false_and, Bool.not_true, Bool.not_false, Nat.add_zero, Nat.zero_add, true_and, and_true, eq_self, reduceCtorEq, and_self, Int.reduceNeg, Int.reduceEq, Int.reduceBEq, Int.reduceLT, Int.reduceLE, Int.reducePow, Int.reduceToNat, Int.reduceAdd, Int.reduceMul, Int.reduceMod, Int.reduceDiv, Int.reduceSub, Nat.reduceAdd, Nat.reduceSub, Nat.reduceLT, Nat.reduceLeDiff, Nat.reducePow, true_or, or_true, or_false, false_or, beq_iff_eq, RV.t.injEq, RV.o.injEq, T.int.injEq, T.str.injEq, T.bl.injEq, Option.some.injEq, ge_iff_le, gt_iff_lt, exists_eq_left', exists_eq_left, List.any_cons, List.any_nil, List.contains_cons, List.contains_nil, exB, String.reduceBEq, String.reduceEq, beq_self_eq_true, bne_self_eq_false, Bool.not_eq_true, Bool.not_eq_false, Tabs.G, List.lookup_cons, List.lookup_nil, Nat.add_assoc]) h1 (by decide)) fun v S' ⟨c1, m1, ss, e1, h2, e2, e3, hs⟩ => ?_
  subst e1 e2
  have z0 : 0 ≤ sizeLine := zle (by decide)
  simp -implicitDefEqProofs only [z0, wp_ok, wp_exc, wp_fail, wp_bind, wp_liftE, wp_noX, wp_ite, wp_var, wp_cst, wp_glb, wp_op0, wp_op1, wp_op2, wp_op3, wp_and, wp_or, wp_not, wp_iteE, wp_chain, wp_call, wp_tup, wp_lst, wp_dct, wp_comp, wp_nil, wp_cons, wt_and, wt_or, wt_not, wt_op2, wt_chain, wt_var, wt_cst, wt_op1, wt_call, wi_one, wi_two, asB_b, ws_ex, ws_asg, ws_sset, ws_ret, ws_ret0, ws_ite, ws_for, ws_whl, ws_raise, ws_try, tryP_nx, tryP_ret, tryP_exc, ws_cont, ws_brk, wb_nil, wb_cons, seqF_nx, seqF_ret, seqF_brk, seqF_cont, seqF_exc, endP_nx, endP_ret, endP_exc, fin_tree, fin_app, fin_app0, at_app0, at_app, at_lt, set_app0, set_app, set_lt, take_app, take_self, at_set, vw_t, vw_o, tree_frz, tree_lst, tree_dic, fz_t, fz_o, fzs_nil, fzs_cons, nrm_t, nrm_o, turnF_nx, turnF_cont, turnF_brk, turnF_ret, turnF_exc, stands_nil, stands_cons, wat_t, wat_o, s0, s1, s2, s3, w1, w2, bindT, sets, trB, truth, pre2, pre3, mid3, isL, isCmp, putO, slc, inC, wipeE, seq?, atI_0, atI_1, atI_2, atI_m, ixN_0, ixN_1, T.flat, teq, below, List.map_cons, List.map_nil, List.cons_append, List.nil_append, List.append_assoc, List.append_nil, List.length_cons, List.length_nil, List.length_append, List.length_set, List.length_map, List.getElem?_cons_zero, List.getElem?_cons_succ, List.set_cons_zero, List.set_cons_succ, List.set_set, List.replicate_succ, List.replicate_zero, Option.map_some, Option.map_none, if_true, if_false, ite_true, ite_false, if_false_right, Bool.false_eq_true, decide_eq_true_eq, Bool.and_eq_true, Bool.or_eq_true, Bool.true_or, Bool.false_or, Bool.or_false, Bool.true_and, Bool.and_true, Bool.and_false, Bool.false_and, Bool.not_true, Bool.not_false, Nat.add_zero, Nat.zero_add, true_and, and_true, eq_self, reduceCtorEq, and_self, Int.reduceNeg, Int.reduceEq, Int.reduceBEq, Int.reduceLT, Int.reduceLE, Int.reducePow, Int.reduceToNat, Int.reduceAdd, Int.reduceMul, Int.reduceMod, Int.reduceDiv, Int.reduceSub, Nat.reduceAdd, Nat.reduceSub, Nat.reduceLT, Nat.reduceLeDiff, Nat.reducePow, true_or, or_true, or_false, false_or, beq_iff_eq, RV.t.injEq, RV.o.injEq, T.int.injEq, T.str.injEq, T.bl.injEq, Option.some.injEq, ge_iff_le, gt_iff_lt, exists_eq_left', exists_eq_left, List.any_cons, List.any_nil, List.contains_cons, List.contains_nil, exB, String.reduceBEq, String.reduceEq, beq_self_eq_true, bne_self_eq_false, Bool.not_eq_true, Bool.not_eq_false, Tabs.G, List.lookup_cons, List.lookup_nil, Nat.add_assoc]
  generalize hN : (if (1 : Int) < if (ns.length : Int) - 1 < 40 then (ns.length : Int) - 1 else 40 then if (ns.length : Int) - 1 < 40 then (ns.length : Int) - 1 else 40 else 1) = N
  have hN2 : 1 ≤ N ∧ N ≤ 40 := by
    rw [← hN]
    split <;> split at * <;> omega
  clear hN
  refine ⟨⟨by omega, by omega⟩, ?_⟩
  refine wp_forL (fun i env B => ∃ (l : List Stamp) (hs : List (List Stamp)) (a5 a6 a7 a8 a9 a10 a11 : Option RV), env = [some (.t (.rol (ns.map T.int))), some (.o (S.length + 1)), some (.t (.tup (l.map stT))), some (.o (S.length + 2)), some (.o (S.length + 3)), a5, a6, a7, a8, a9, a10, a11] ∧
      B[S.length + 1]? = some (.lst (ss.map T.str)) ∧ B[S.length + 2]? = some (.lst (l.map stT)) ∧ B[S.length + 3]? = some (.lst (hs.map hT)) ∧ l.length ≤ 24 ∧ (∀ s ∈ l, StOk s) ∧ hs.length = i ∧ ∀ l ∈ hs, l.length ≤ 24 ∧ ∀ s ∈ l, StOk s)
    ⟨[], [], _, _, _, _, _, _, _, rfl, by simp -implicitDefEqProofs only [wp_ok, wp_exc, wp_fail, wp_bind, wp_liftE, wp_noX, wp_ite, wp_var, wp_cst, wp_glb, wp_op0, wp_op1, wp_op2, wp_op3, wp_and, wp_or, wp_not, wp_iteE, wp_chain, wp_call, wp_tup, wp_lst, wp_dct, wp_comp, wp_nil, wp_cons, wt_and, wt_or, wt_not, wt_op2, wt_chain, wt_var, wt_cst, wt_op1, wt_call, wi_one, wi_two, asB_b, ws_ex, ws_asg, ws_sset, ws_ret, ws_ret0, ws_ite, ws_for, ws_whl, ws_raise, ws_try, tryP_nx, tryP_ret, tryP_exc, ws_cont, ws_brk, wb_nil, wb_cons, seqF_nx, seqF_ret, seqF_brk, seqF_cont, seqF_exc, endP_nx, endP_ret, endP_exc, fin_tree, fin_app, fin_app0, at_app0, at_app, at_lt, set_app0, set_app, set_lt, take_app, take_self, at_set, vw_t, vw_o, tree_frz, tree_lst, tree_dic, fz_t, fz_o, fzs_nil, fzs_cons, nrm_t, nrm_o, turnF_nx, turnF_cont, turnF_brk, turnF_ret, turnF_exc, stands_nil, stands_cons, wat_t, wat_o, s0, s1, s2, s3, w1, w2, bindT, sets, trB, truth, pre2, pre3, mid3, isL, isCmp, putO, slc, inC, wipeE, seq?, atI_0, atI_1, atI_2, atI_m, ixN_0, ixN_1, T.flat, teq, below, List.map_cons, List.map_nil, List.cons_append, List.nil_append, List.append_assoc, List.append_nil, List.length_cons, List.length_nil, List.length_append, List.length_set, List.length_map, List.getElem?_cons_zero, List.getElem?_cons_succ, List.set_cons_zero, List.set_cons_succ, List.set_set, List.replicate_succ, List.replicate_zero, Option.map_some, Option.map_none, if_true, if_false, ite_true, ite_false, if_false_right, Bool.false_eq_true, decide_eq_true_eq, Bool.and_eq_true, Bool.or_eq_true, Bool.true_or, Bool.false_or, Bool.or_false, Bool.true_and, Bool.and_true, Bool.and_false, Bool.false_and, Bool.not_true, Bool.not_false, Nat.add_zero, Nat.zero_add, true_and, and_true, eq_self, reduceCtorEq, and_self, Int.reduceNeg, Int.reduceEq, Int.reduceBEq, Int.reduceLT, Int.reduceLE, Int.reducePow, Int.reduceToNat, Int.reduceAdd, Int.reduceMul, Int.reduceMod, Int.reduceDiv, Int.reduceSub, Nat.reduceAdd, Nat.reduceSub, Nat.reduceLT, Nat.reduceLeDiff, Nat.reducePow, true_or, or_true, or_false, false_or, beq_iff_eq, RV.t.injEq, RV.o.injEq, T.int.injEq, T.str.injEq, T.bl.injEq, Option.some.injEq, ge_iff_le, gt_iff_lt, exists_eq_left', exists_eq_left, List.any_cons, List.any_nil, List.contains_cons, List.contains_nil, exB, String.reduceBEq, String.reduceEq, beq_self_eq_true, bne_self_eq_false, Bool.not_eq_true, Bool.not_eq_false, Tabs.G, List.lookup_cons, List.lookup_nil, Nat.add_assoc], by simp -implicitDefEqProofs only [wp_ok, wp_exc, wp_fail, wp_bind, wp_liftE, wp_noX, wp_ite, wp_var, wp_cst, wp_glb, wp_op0, wp_op1, wp_op2, wp_op3, wp_and, wp_or, wp_not, wp_iteE, wp_chain, wp_call, wp_tup, wp_lst, wp_dct, wp_comp, wp_nil, wp_cons, wt_and, wt_or, wt_not, wt_op2, wt_chain, wt_var, wt_cst, wt_op1, wt_call, wi_one, wi_two, asB_b, ws_ex, ws_asg, ws_sset, ws_ret, ws_ret0, ws_ite, ws_for, ws_whl, ws_raise, ws_try, tryP_nx, tryP_ret, tryP_exc, ws_cont, ws_brk, wb_nil, wb_cons, seqF_nx, seqF_ret, seqF_brk, seqF_cont, seqF_exc, endP_nx, endP_ret, endP_exc, fin_tree, fin_app, fin_app0, at_app0, at_app, at_lt, set_app0, set_app, set_lt, take_app, take_self, at_set, vw_t, vw_o, tree_frz, tree_lst, tree_dic, fz_t, fz_o, fzs_nil, fzs_cons, nrm_t, nrm_o, turnF_nx, turnF_cont, turnF_brk, turnF_ret, turnF_exc, stands_nil, stands_cons, wat_t, wat_o, s0, s1, s2, s3, w1, w2, bindT, sets, trB, truth, pre2, pre3, mid3, isL, isCmp, putO, slc, inC, wipeE, seq?, atI_0, atI_1, atI_2, atI_m, ixN_0, ixN_1, T.flat, teq, below, List.map_cons, List.map_nil, List.cons_append, List.nil_append, List.append_assoc, List.append_nil, List.length_cons, List.length_nil, List.length_append, List.length_set, List.length_map, List.getElem?_cons_zero, List.getElem?_cons_succ, List.set_cons_zero, List.set_cons_succ, List.set_set, List.replicate_succ, List.replicate_zero, Option.map_some, Option.map_none, if_true, if_false, ite_true, ite_false, if_false_right, Bool.false_eq_true, decide_eq_true_eq, Bool.and_eq_true, Bool.or_eq_true, Bool.true_or, Bool.false_or, Bool.or_false, Bool.true_and, Bool.and_true, Bool.and_false, Bool.false_and, Bool.not_true, Bool.not_false, Nat.add_zero, Nat.zero_add, true_and, and_true, eq_self, reduceCtorEq, and_self, Int.reduceNeg, Int.reduceEq, Int.reduceBEq, Int.reduceLT, Int.reduceLE, Int.reducePow, Int.reduceToNat, Int.reduceAdd, Int.reduceMul, Int.reduceMod, Int.reduceDiv, Int.reduceSub, Nat.reduceAdd, Nat.reduceSub, Nat.reduceLT, Nat.reduceLeDiff, Nat.reducePow, true_or, or_true, or_false, false_or, beq_iff_eq, RV.t.injEq, RV.o.injEq, T.int.injEq, T.str.injEq, T.bl.injEq, Option.some.injEq, ge_iff_le, gt_iff_lt, exists_eq_left', exists_eq_left, List.any_cons, List.any_nil, List.contains_cons, List.contains_nil, exB, String.reduceBEq, String.reduceEq, beq_self_eq_true, bne_self_eq_false, Bool.not_eq_true, Bool.not_eq_false, Tabs.G, List.lookup_cons, List.lookup_nil, Nat.add_assoc], by simp -implicitDefEqProofs only [wp_ok, wp_exc, wp_fail, wp_bind, wp_liftE, wp_noX, wp_ite, wp_var, wp_cst, wp_glb, wp_op0, wp_op1, wp_op2, wp_op3, wp_and, wp_or, wp_not, wp_iteE, wp_chain, wp_call, wp_tup, wp_lst, wp_dct, wp_comp, wp_nil, wp_cons, wt_and, wt_or, wt_not, wt_op2, wt_chain, wt_var, wt_cst, wt_op1, wt_call, wi_one, wi_two, asB_b, ws_ex, ws_asg, ws_sset, ws_ret, ws_ret0, ws_ite, ws_for, ws_whl, ws_raise, ws_try, tryP_nx, tryP_ret, tryP_exc, ws_cont, ws_brk, wb_nil, wb_cons, seqF_nx, seqF_ret, seqF_brk, seqF_cont, seqF_exc, endP_nx, endP_ret, endP_exc, fin_tree, fin_app, fin_app0, at_app0, at_app, at_lt, set_app0, set_app, set_lt, take_app, take_self, at_set, vw_t, vw_o, tree_frz, tree_lst, tree_dic, fz_t, fz_o, fzs_nil, fzs_cons, nrm_t, nrm_o, turnF_nx, turnF_cont, turnF_brk, turnF_ret, turnF_exc, stands_nil, stands_cons, wat_t, wat_o, s0, s1, s2, s3, w1, w2, bindT, sets, trB, truth, pre2, pre3, mid3, isL, isCmp, putO, slc, inC, wipeE, seq?, atI_0, atI_1, atI_2, atI_m, ixN_0, ixN_1, T.flat, teq, below, List.map_cons, List.map_nil, List.cons_append, List.nil_append, List.append_assoc, List.append_nil, List.length_cons, List.length_nil, List.length_append, List.length_set, List.length_map, List.getElem?_cons_zero, List.getElem?_cons_succ, List.set_cons_zero, List.set_cons_succ, List.set_set, List.replicate_succ, List.replicate_zero, Option.map_some, Option.map_none, if_true, if_false, ite_true, ite_false, if_false_right, Bool.false_eq_true, decide_eq_true_eq, Bool.and_eq_true, Bool.or_eq_true, Bool.true_or, Bool.false_or, Bool.or_false, Bool.true_and, Bool.and_true, Bool.and_false, Bool.false_and, Bool.not_true, Bool.not_false, Nat.add_zero, Nat.zero_add, true_and, and_true, eq_self, reduceCtorEq, and_self, Int.reduceNeg, Int.reduceEq, Int.reduceBEq, Int.reduceLT, Int.reduceLE, Int.reducePow, Int.reduceToNat, Int.reduceAdd, Int.reduceMul, Int.reduceMod, Int.reduceDiv, Int.reduceSub, Nat.reduceAdd, Nat.reduceSub, Nat.reduceLT, Nat.reduceLeDiff, Nat.reducePow, true_or, or_true, or_false, false_or, beq_iff_eq, RV.t.injEq, RV.o.injEq, T.int.injEq, T.str.injEq, T.bl.injEq, Option.some.injEq, ge_iff_le, gt_iff_lt, exists_eq_left', exists_eq_left, List.any_cons, List.any_nil, List.contains_cons, List.contains_nil, exB, String.reduceBEq, String.reduceEq, beq_self_eq_true, bne_self_eq_false, Bool.not_eq_true, Bool.not_eq_false, Tabs.G, List.lookup_cons, List.lookup_nil, Nat.add_assoc], by decide, (by intro s h; cases h), rfl, (by intro s h; cases h)⟩ (fun _ _ _ _ _ => stands_nil ▸ trivial)
    (fun i x env B hx ⟨l, hs', a5, a6, a7, a8, a9, a10, a11, e4, hq, hj, hh, hl, hst, hhs, hall⟩ => ?_) (fun env B ⟨l, hs', a5, a6, a7, a8, a9, a10, a11, e4, hq, hj, hh, hl, hst, hhs, hall⟩ => ?_)
  · subst e4
    obtain ⟨hi, rfl⟩ := range_get hx
    have hi' : i < 40 := by omega
    clear hx
    rw [wp_stepF]
    refine body_ok (ss := ss) hq hj hh (by omega) (by omega) (by omega) hs e3 hl hst hi' hhs fun env S' l' b6 b7 b8 b9 b10 b11 e q1 q2 q3 q4 q5 => ?_
    subst e
    refine ⟨l', hs' ++ [l'], _, _, _, _, _, _, _, rfl, q1, q2, q3, q4, q5, by rw [List.length_append, hhs]; rfl, fun t ht => ?_⟩
    rcases List.mem_append.mp ht with h | h
    · exact hall t h
    · rw [List.mem_singleton.mp h]
      exact ⟨q4, q5⟩
  · subst e4
    have lh := lt_of_at hh
    simp -implicitDefEqProofs only [hh, lh, wp_ok, wp_exc, wp_fail, wp_bind, wp_liftE, wp_noX, wp_ite, wp_var, wp_cst, wp_glb, wp_op0, wp_op1, wp_op2, wp_op3, wp_and, wp_or, wp_not, wp_iteE, wp_chain, wp_call, wp_tup, wp_lst, wp_dct, wp_comp, wp_nil, wp_cons, wt_and, wt_or, wt_not, wt_op2, wt_chain, wt_var, wt_cst, wt_op1, wt_call, wi_one, wi_two, asB_b, ws_ex, ws_asg, ws_sset, ws_ret, ws_ret0, ws_ite, ws_for, ws_whl, ws_raise, ws_try, tryP_nx, tryP_ret, tryP_exc, ws_cont, ws_brk, wb_nil, wb_cons, seqF_nx, seqF_ret, seqF_brk, seqF_cont, seqF_exc, endP_nx, endP_ret, endP_exc, fin_tree, fin_app, fin_app0, at_app0, at_app, at_lt, set_app0, set_app, set_lt, take_app, take_self, at_set, vw_t, vw_o, tree_frz, tree_lst, tree_dic, fz_t, fz_o, fzs_nil, fzs_cons, nrm_t, nrm_o, turnF_nx, turnF_cont, turnF_brk, turnF_ret, turnF_exc, stands_nil, stands_cons, wat_t, wat_o, s0, s1, s2, s3, w1, w2, bindT, sets, trB, truth, pre2, pre3, mid3, isL, isCmp, putO, slc, inC, wipeE, seq?, atI_0, atI_1, atI_2, atI_m, ixN_0, ixN_1, T.flat, teq, below, List.map_cons, List.map_nil, List.cons_append, List.nil_append, List.append_assoc, List.append_nil, List.length_cons, List.length_nil, List.length_append, List.length_set, List.length_map, List.getElem?_cons_zero, List.getElem?_cons_succ, List.set_cons_zero, List.set_cons_succ, List.set_set, List.replicate_succ, List.replicate_zero, Option.map_some, Option.map_none, if_true, if_false, ite_true, ite_false, if_false_right, Bool.false_eq_true, decide_eq_true_eq, Bool.and_eq_true, Bool.or_eq_true, Bool.true_or, Bool.false_or, Bool.or_false, Bool.true_and, Bool.and_true, Bool.and_false, Bool.false_and, Bool.not_true, Bool.not_false, Nat.add_zero, Nat.zero_add, true_and, and_true, eq_self, reduceCtorEq, and_self, Int.reduceNeg, Int.reduceEq, Int.reduceBEq, Int.reduceLT, Int.reduceLE, Int.reducePow, Int.reduceToNat, Int.reduceAdd, Int.reduceMul, Int.reduceMod, Int.reduceDiv, Int.reduceSub, Nat.reduceAdd, Nat.reduceSub, Nat.reduceLT, Nat.reduceLeDiff, Nat.reducePow, true_or, or_true, or_false, false_or, beq_iff_eq, RV.t.injEq, RV.o.injEq, T.int.injEq, T.str.injEq, T.bl.injEq, Option.some.injEq, ge_iff_le, gt_iff_lt, exists_eq_left', exists_eq_left, List.any_cons, List.any_nil, List.contains_cons, List.contains_nil, exB, String.reduceBEq, String.reduceEq, beq_self_eq_true, bne_self_eq_false, Bool.not_eq_true, Bool.not_eq_false, Tabs.G, List.lookup_cons, List.lookup_nil, Nat.add_assoc]
    refine wp_forL (fun i env S' => ∃ (g : Store) (a b : Option RV), S' = B ++ g ∧ env = [some (.t (.rol (ns.map T.int))), some (.o (S.length + 1)), some (.t (.tup (l.map stT))), some (.o (S.length + 2)), some (.o (S.length + 3)), a5, a6, a7, a, b, a10, a11])
      ⟨[], a8, a9, by simp, rfl⟩ (fun i env S' hi ⟨g, a, b, e1, e2⟩ => by subst e1; simp -implicitDefEqProofs only [hh, lh, wp_ok, wp_exc, wp_fail, wp_bind, wp_liftE, wp_noX, wp_ite, wp_var, wp_cst, wp_glb, wp_op0, wp_op1, wp_op2, wp_op3, wp_and, wp_or, wp_not, wp_iteE, wp_chain, wp_call, wp_tup, wp_lst, wp_dct, wp_comp, wp_nil, wp_cons, wt_and, wt_or, wt_not, wt_op2, wt_chain, wt_var, wt_cst, wt_op1, wt_call, wi_one, wi_two, asB_b, ws_ex, ws_asg, ws_sset, ws_ret, ws_ret0, ws_ite, ws_for, ws_whl, ws_raise, ws_try, tryP_nx, tryP_ret, tryP_exc, ws_cont, ws_brk, wb_nil, wb_cons, seqF_nx, seqF_ret, seqF_brk, seqF_cont, seqF_exc, endP_nx, endP_ret, endP_exc, fin_tree, fin_app, fin_app0, at_app0, at_app, at_lt, set_app0, set_app, set_lt, take_app, take_self, at_set, vw_t, vw_o, tree_frz, tree_lst, tree_dic, fz_t, fz_o, fzs_nil, fzs_cons, nrm_t, nrm_o, turnF_nx, turnF_cont, turnF_brk, turnF_ret, turnF_exc, stands_nil, stands_cons, wat_t, wat_o, s0, s1, s2, s3, w1, w2, bindT, sets, trB, truth, pre2, pre3, mid3, isL, isCmp, putO, slc, inC, wipeE, seq?, atI_0, atI_1, atI_2, atI_m, ixN_0, ixN_1, T.flat, teq, below, List.map_cons, List.map_nil, List.cons_append, List.nil_append, List.append_assoc, List.append_nil, List.length_cons, List.length_nil, List.length_append, List.length_set, List.length_map, List.getElem?_cons_zero, List.getElem?_cons_succ, List.set_cons_zero, List.set_cons_succ, List.set_set, List.replicate_succ, List.replicate_zero, Option.map_some, Option.map_none, if_true, if_false, ite_true, ite_false, if_false_right, Bool.false_eq_true, decide_eq_true_eq, Bool.and_eq_true, Bool.or_eq_true, Bool.true_or, Bool.false_or, Bool.or_false, Bool.true_and, Bool.and_true, Bool.and_false, Bool.false_and, Bool.not_true, Bool.not_false, Nat.add_zero, Nat.zero_add, true_and, and_true, eq_self, reduceCtorEq, and_self, Int.reduceNeg, Int.reduceEq, Int.reduceBEq, Int.reduceLT, Int.reduceLE, Int.reducePow, Int.reduceToNat, Int.reduceAdd, Int.reduceMul, Int.reduceMod, Int.reduceDiv, Int.reduceSub, Nat.reduceAdd, Nat.reduceSub, Nat.reduceLT, Nat.reduceLeDiff, Nat.reducePow, true_or, or_true, or_false, false_or, beq_iff_eq, RV.t.injEq, RV.o.injEq, T.int.injEq, T.str.injEq, T.bl.injEq, Option.some.injEq, ge_iff_le, gt_iff_lt, exists_eq_left', exists_eq_left, List.any_cons, List.any_nil, List.contains_cons, List.contains_nil, exB, String.reduceBEq, String.reduceEq, beq_self_eq_true, bne_self_eq_false, Bool.not_eq_true, Bool.not_eq_false, Tabs.G, List.lookup_cons, List.lookup_nil, Nat.add_assoc]) (fun i x env S' hx ⟨g, a, b, e1, e2⟩ => ?_) (fun env S' ⟨g, a, b, e1, e2⟩ => ?_)
    · subst e1 e2
      obtain ⟨y, hy, rfl⟩ := map_get hx
      have hy2 := hall y (List.mem_of_getElem? hy)
      have ll := eqT_same (low_sts hy2.2 58)
      have hz : y.length ≤ sizeLine := zle (by omega)
      have eh : hT y = T.tup [T.tup (y.map stT), T.lst (y.map stT)] := rfl
      simp -implicitDefEqProofs only [wp_stepF, eh, ll, hz, List.length_map, wp_ok, wp_exc, wp_fail, wp_bind, wp_liftE, wp_noX, wp_ite, wp_var, wp_cst, wp_glb, wp_op0, wp_op1, wp_op2, wp_op3, wp_and, wp_or, wp_not, wp_iteE, wp_chain, wp_call, wp_tup, wp_lst, wp_dct, wp_comp, wp_nil, wp_cons, wt_and, wt_or, wt_not, wt_op2, wt_chain, wt_var, wt_cst, wt_op1, wt_call, wi_one, wi_two, asB_b, ws_ex, ws_asg, ws_sset, ws_ret, ws_ret0, ws_ite, ws_for, ws_whl, ws_raise, ws_try, tryP_nx, tryP_ret, tryP_exc, ws_cont, ws_brk, wb_nil, wb_cons, seqF_nx, seqF_ret, seqF_brk, seqF_cont, seqF_exc, endP_nx, endP_ret, endP_exc, fin_tree, fin_app, fin_app0, at_app0, at_app, at_lt, set_app0, set_app, set_lt, take_app, take_self, at_set, vw_t, vw_o, tree_frz, tree_lst, tree_dic, fz_t, fz_o, fzs_nil, fzs_cons, nrm_t, nrm_o, turnF_nx, turnF_cont, turnF_brk, turnF_ret, turnF_exc, stands_nil, stands_cons, wat_t, wat_o, s0, s1, s2, s3, w1, w2, bindT, sets, trB, truth, pre2, pre3, mid3, isL, isCmp, putO, slc, inC, wipeE, seq?, atI_0, atI_1, atI_2, atI_m, ixN_0, ixN_1, T.flat, teq, below, List.map_cons, List.map_nil, List.cons_append, List.nil_append, List.append_assoc, List.append_nil, List.length_cons, List.length_nil, List.length_append, List.length_set, List.length_map, List.getElem?_cons_zero, List.getElem?_cons_succ, List.set_cons_zero, List.set_cons_succ, List.set_set, List.replicate_succ, List.replicate_zero, Option.map_some, Option.map_none, if_true, if_false, ite_true, ite_false, if_false_right, Bool.false_eq_true, decide_eq_true_eq, Bool.and_eq_true, Bool.or_eq_true, Bool.true_or, Bool.false_or, Bool.or_false, Bool.true_and, Bool.and_true, Bool.and_false, Bool.false_and, Bool.not_true, Bool.not_false, Nat.add_zero, Nat.zero_add, true_and, and_true, eq_self, reduceCtorEq, and_self, Int.reduceNeg, Int.reduceEq, Int.reduceBEq, Int.reduceLT, Int.reduceLE, Int.reducePow, Int.reduceToNat, Int.reduceAdd, Int.reduceMul, Int.reduceMod, Int.reduceDiv, Int.reduceSub, Nat.reduceAdd, Nat.reduceSub, Nat.reduceLT, Nat.reduceLeDiff, Nat.reducePow, true_or, or_true, or_false, false_or, beq_iff_eq, RV.t.injEq, RV.o.injEq, T.int.injEq, T.str.injEq, T.bl.injEq, Option.some.injEq, ge_iff_le, gt_iff_lt, exists_eq_left', exists_eq_left, List.any_cons, List.any_nil, List.contains_cons, List.contains_nil, exB, String.reduceBEq, String.reduceEq, beq_self_eq_true, bne_self_eq_false, Bool.not_eq_true, Bool.not_eq_false, Tabs.G, List.lookup_cons, List.lookup_nil, Nat.add_assoc]
      exact ⟨_, _, _, rfl, rfl⟩
    · subst e1 e2
      simp -implicitDefEqProofs only [wp_ok, wp_exc, wp_fail, wp_bind, wp_liftE, wp_noX, wp_ite, wp_var, wp_cst, wp_glb, wp_op0, wp_op1, wp_op2, wp_op3, wp_and, wp_or, wp_not, wp_iteE, wp_chain, wp_call, wp_tup, wp_lst, wp_dct, wp_comp, wp_nil, wp_cons, wt_and, wt_or, wt_not, wt_op2, wt_chain, wt_var, wt_cst, wt_op1, wt_call, wi_one, wi_two, asB_b, ws_ex, ws_asg, ws_sset, ws_ret, ws_ret0, ws_ite, ws_for, ws_whl, ws_raise, ws_try, tryP_nx, tryP_ret, tryP_exc, ws_cont, ws_brk, wb_nil, wb_cons, seqF_nx, seqF_ret, seqF_brk, seqF_cont, seqF_exc, endP_nx, endP_ret, endP_exc, fin_tree, fin_app, fin_app0, at_app0, at_app, at_lt, set_app0, set_app, set_lt, take_app, take_self, at_set, vw_t, vw_o, tree_frz, tree_lst, tree_dic, fz_t, fz_o, fzs_nil, fzs_cons, nrm_t, nrm_o, turnF_nx, turnF_cont, turnF_brk, turnF_ret, turnF_exc, stands_nil, stands_cons, wat_t, wat_o, s0, s1, s2, s3, w1, w2, bindT, sets, trB, truth, pre2, pre3, mid3, isL, isCmp, putO, slc, inC, wipeE, seq?, atI_0, atI_1, atI_2, atI_m, ixN_0, ixN_1, T.flat, teq, below, List.map_cons, List.map_nil, List.cons_append, List.nil_append, List.append_assoc, List.append_nil, List.length_cons, List.length_nil, List.length_append, List.length_set, List.length_map, List.getElem?_cons_zero, List.getElem?_cons_succ, List.set_cons_zero, List.set_cons_succ, List.set_set, List.replicate_succ, List.replicate_zero, Option.map_some, Option.map_none, if_true, if_false, ite_true, ite_false, if_false_right, Bool.false_eq_true, decide_eq_true_eq, Bool.and_eq_true, Bool.or_eq_true, Bool.true_or, Bool.false_or, Bool.or_false, Bool.true_and, Bool.and_true, Bool.and_false, Bool.false_and, Bool.not_true, Bool.not_false, Nat.add_zero, Nat.zero_add, true_and, and_true, eq_self, reduceCtorEq, and_self, Int.reduceNeg, Int.reduceEq, Int.reduceBEq, Int.reduceLT, Int.reduceLE, Int.reducePow, Int.reduceToNat, Int.reduceAdd, Int.reduceMul, Int.reduceMod, Int.reduceDiv, Int.reduceSub, Nat.reduceAdd, Nat.reduceSub, Nat.reduceLT, Nat.reduceLeDiff, Nat.reducePow, true_or, or_true, or_false, false_or, beq_iff_eq, RV.t.injEq, RV.o.injEq, T.int.injEq, T.str.injEq, T.bl.injEq, Option.some.injEq, ge_iff_le, gt_iff_lt, exists_eq_left', exists_eq_left, List.any_cons, List.any_nil, List.contains_cons, List.contains_nil, exB, String.reduceBEq, String.reduceEq, beq_self_eq_true, bne_self_eq_false, Bool.not_eq_true, Bool.not_eq_false, Tabs.G, List.lookup_cons, List.lookup_nil, Nat.add_assoc]
theorem main (ns : List Int) (h : ns.length ≤ 63) : ∃ S, callF tabs.G tabs.Δ 40 "law" [.t (.rol (ns.map T.int))] [] = .ok (.t (.bl true)) S := by
  obtain ⟨v, S, e, rfl⟩ := wp_done (law_ok (k := 35) (S := []) h)
  exact ⟨S, e⟩
end K04

namespace K04
open L2 PV PyProof.Rows PySem.Spec PySem
/-! ### the defs as they stand in the text -/
def topS (i : Nat) : Stmt := PySem.Challenge.pw_stampcourse_k04_stamps_taken_out.main.body.getD i (.Pass ⟨0, 0, 0, 0⟩)
abbrev st_f_is_whole : Stmt := topS 2
def nm_f_is_whole : List Str := ["thing"]
def ps_f_is_whole : List Str := ["thing"]
theorem sc_f_is_whole : FnScope nm_f_is_whole ps_f_is_whole (defScope st_f_is_whole) := ⟨rfl, rfl, rfl, by decide +kernel, rfl, by decide +kernel, by decide +kernel⟩
theorem mt_f_is_whole : mSs tabs.fs nm_f_is_whole (defScope st_f_is_whole) (fun _ => true) f_is_whole.body (defBody st_f_is_whole) = true := by decide +kernel
abbrev st_f_is_below : Stmt := topS 3
def nm_f_is_below : List Str := ["thing", "many"]
def ps_f_is_below : List Str := ["thing", "many"]
theorem sc_f_is_below : FnScope nm_f_is_below ps_f_is_below (defScope st_f_is_below) := ⟨rfl, rfl, rfl, by decide +kernel, rfl, by decide +kernel, by decide +kernel⟩
theorem mt_f_is_below : mSs tabs.fs nm_f_is_below (defScope st_f_is_below) (fun _ => true) f_is_below.body (defBody st_f_is_below) = true := by decide +kernel
abbrev st_f_put_in : Stmt := topS 20
def nm_f_put_in : List Str := ["card", "place", "stamp"]
def ps_f_put_in : List Str := ["card", "place", "stamp"]
theorem sc_f_put_in : FnScope nm_f_put_in ps_f_put_in (defScope st_f_put_in) := ⟨rfl, rfl, rfl, by decide +kernel, rfl, by decide +kernel, by decide +kernel⟩
theorem mt_f_put_in : mSs tabs.fs nm_f_put_in (defScope st_f_put_in) (fun _ => true) f_put_in.body (defBody st_f_put_in) = true := by decide +kernel
abbrev st_f_take_out : Stmt := topS 21
def nm_f_take_out : List Str := ["card", "place"]
def ps_f_take_out : List Str := ["card", "place"]
theorem sc_f_take_out : FnScope nm_f_take_out ps_f_take_out (defScope st_f_take_out) := ⟨rfl, rfl, rfl, by decide +kernel, rfl, by decide +kernel, by decide +kernel⟩
theorem mt_f_take_out : mSs tabs.fs nm_f_take_out (defScope st_f_take_out) (fun _ => true) f_take_out.body (defBody st_f_take_out) = true := by decide +kernel
abbrev st_g_law_pen : Stmt := topS 23
def nm_g_law_pen : List Str := ["script", "k", "cell"]
def ps_g_law_pen : List Str := ["script", "k"]
theorem sc_g_law_pen : FnScope nm_g_law_pen ps_g_law_pen (defScope st_g_law_pen) := ⟨rfl, rfl, rfl, by decide +kernel, rfl, by decide +kernel, by decide +kernel⟩
theorem mt_g_law_pen : mSs tabs.fs nm_g_law_pen (defScope st_g_law_pen) (fun _ => true) g_law_pen.body (defBody st_g_law_pen) = true := by decide +kernel
abbrev st_g_law_take : Stmt := topS 24
def nm_g_law_take : List Str := ["pen", "many", "second", "digit"]
def ps_g_law_take : List Str := ["pen", "many"]
theorem sc_g_law_take : FnScope nm_g_law_take ps_g_law_take (defScope st_g_law_take) := ⟨rfl, rfl, rfl, by decide +kernel, rfl, by decide +kernel, by decide +kernel⟩
theorem mt_g_law_take : mSs tabs.fs nm_g_law_take (defScope st_g_law_take) (fun _ => true) g_law_take.body (defBody st_g_law_take) = true := by decide +kernel
abbrev st_g_law_names : Stmt := topS 25
def nm_g_law_names : List Str := ["pen", "many", "letters", "way", "base", "size", "spot", "first", "names", "k", "sign"]
def ps_g_law_names : List Str := ["pen", "many"]
theorem sc_g_law_names : FnScope nm_g_law_names ps_g_law_names (defScope st_g_law_names) := ⟨rfl, rfl, rfl, by decide +kernel, rfl, by decide +kernel, by decide +kernel⟩
theorem mt_g_law_names : mSs tabs.fs nm_g_law_names (defScope st_g_law_names) (fun _ => true) g_law_names.body (defBody st_g_law_names) = true := by decide +kernel
abbrev st_g_law_word_of : Stmt := topS 26
def nm_g_law_word_of : List Str := ["e", "some", "found", "held", "word"]
def ps_g_law_word_of : List Str := ["e"]
theorem sc_g_law_word_of : FnScope nm_g_law_word_of ps_g_law_word_of (defScope st_g_law_word_of) := ⟨rfl, rfl, rfl, by decide +kernel, rfl, by decide +kernel, by decide +kernel⟩
theorem mt_g_law_word_of : mSs tabs.fs nm_g_law_word_of (defScope st_g_law_word_of) (fun _ => true) g_law_word_of.body (defBody st_g_law_word_of) = true := by decide +kernel
abbrev st_g_law_told : Stmt := topS 27
def nm_g_law_told : List Str := ["card", "place", "caught", "found", "e"]
def ps_g_law_told : List Str := ["card", "place"]
theorem sc_g_law_told : FnScope nm_g_law_told ps_g_law_told (defScope st_g_law_told) := ⟨rfl, rfl, rfl, by decide +kernel, rfl, by decide +kernel, by decide +kernel⟩
theorem mt_g_law_told : mSs tabs.fs nm_g_law_told (defScope st_g_law_told) (fun _ => true) g_law_told.body (defBody st_g_law_told) = true := by decide +kernel
abbrev st_g_law_odd : Stmt := topS 28
def nm_g_law_odd : List Str := ["pen", "many", "some"]
def ps_g_law_odd : List Str := ["pen", "many"]
theorem sc_g_law_odd : FnScope nm_g_law_odd ps_g_law_odd (defScope st_g_law_odd) := ⟨rfl, rfl, rfl, by decide +kernel, rfl, by decide +kernel, by decide +kernel⟩
theorem mt_g_law_odd : mSs tabs.fs nm_g_law_odd (defScope st_g_law_odd) (fun _ => true) g_law_odd.body (defBody st_g_law_odd) = true := by decide +kernel
abbrev st_f_law : Stmt := topS 29
def nm_f_law : List Str := ["script", "names", "card", "stamps", "held", "k", "pen", "way", "told", "expected", "at", "how"]
def ps_f_law : List Str := ["script"]
theorem sc_f_law : FnScope nm_f_law ps_f_law (defScope st_f_law) := ⟨rfl, rfl, rfl, by decide +kernel, rfl, by decide +kernel, by decide +kernel⟩
theorem mt_f_law : mSs tabs.fs nm_f_law (defScope st_f_law) (fun _ => true) f_law.body (defBody st_f_law) = true := by decide +kernel
theorem all_mk {l : PySem.W.OpenLaw} {w : World} {K : PySem.W.Frag} {h : Heap} {mg : Str → Option Value} {fa : Addr} {lev : Nat} (X : K.In h) (G : h.Ns mainGlobals mg) (hfa : mg "law" = some (.ref fa))
    {fa_f_is_whole : Addr} {oc_f_is_whole kV_f_is_whole dc_f_is_whole pm_f_is_whole cd_f_is_whole ct_f_is_whole : Value} {od_f_is_whole an_f_is_whole : Option Addr} {sl_f_is_whole : Array (Option Value)}
    (a_f_is_whole : PySem.W.nsIn K mainGlobals "is_whole" = some (some (.ref fa_f_is_whole))) (l_f_is_whole : K.lookup fa_f_is_whole = some ⟨oc_f_is_whole, od_f_is_whole, .func (PySem.W.fnOf "is_whole" "is_whole" (defArgs st_f_is_whole) (defBody st_f_is_whole) (defScope st_f_is_whole) .none kV_f_is_whole dc_f_is_whole pm_f_is_whole an_f_is_whole cd_f_is_whole ct_f_is_whole), sl_f_is_whole⟩)
    (c_f_is_whole : PySem.W.codeIn K cd_f_is_whole "is_whole" = true) (k_f_is_whole : PySem.W.keepIn K (.ref fa_f_is_whole) = true)
    {fa_f_is_below : Addr} {oc_f_is_below kV_f_is_below dc_f_is_below pm_f_is_below cd_f_is_below ct_f_is_below : Value} {od_f_is_below an_f_is_below : Option Addr} {sl_f_is_below : Array (Option Value)}
    (a_f_is_below : PySem.W.nsIn K mainGlobals "is_below" = some (some (.ref fa_f_is_below))) (l_f_is_below : K.lookup fa_f_is_below = some ⟨oc_f_is_below, od_f_is_below, .func (PySem.W.fnOf "is_below" "is_below" (defArgs st_f_is_below) (defBody st_f_is_below) (defScope st_f_is_below) .none kV_f_is_below dc_f_is_below pm_f_is_below an_f_is_below cd_f_is_below ct_f_is_below), sl_f_is_below⟩)
    (c_f_is_below : PySem.W.codeIn K cd_f_is_below "is_below" = true) (k_f_is_below : PySem.W.keepIn K (.ref fa_f_is_below) = true)
    {fa_f_put_in : Addr} {oc_f_put_in kV_f_put_in dc_f_put_in pm_f_put_in cd_f_put_in ct_f_put_in : Value} {od_f_put_in an_f_put_in : Option Addr} {sl_f_put_in : Array (Option Value)}
    (a_f_put_in : PySem.W.nsIn K mainGlobals "put_in" = some (some (.ref fa_f_put_in))) (l_f_put_in : K.lookup fa_f_put_in = some ⟨oc_f_put_in, od_f_put_in, .func (PySem.W.fnOf "put_in" "put_in" (defArgs st_f_put_in) (defBody st_f_put_in) (defScope st_f_put_in) .none kV_f_put_in dc_f_put_in pm_f_put_in an_f_put_in cd_f_put_in ct_f_put_in), sl_f_put_in⟩)
    (c_f_put_in : PySem.W.codeIn K cd_f_put_in "put_in" = true) (k_f_put_in : PySem.W.keepIn K (.ref fa_f_put_in) = true)
    {fa_f_take_out : Addr} {oc_f_take_out kV_f_take_out dc_f_take_out pm_f_take_out cd_f_take_out ct_f_take_out : Value} {od_f_take_out an_f_take_out : Option Addr} {sl_f_take_out : Array (Option Value)}
    (a_f_take_out : PySem.W.nsIn K mainGlobals "take_out" = some (some (.ref fa_f_take_out))) (l_f_take_out : K.lookup fa_f_take_out = some ⟨oc_f_take_out, od_f_take_out, .func (PySem.W.fnOf "take_out" "take_out" (defArgs st_f_take_out) (defBody st_f_take_out) (defScope st_f_take_out) .none kV_f_take_out dc_f_take_out pm_f_take_out an_f_take_out cd_f_take_out ct_f_take_out), sl_f_take_out⟩)
    (c_f_take_out : PySem.W.codeIn K cd_f_take_out "take_out" = true) (k_f_take_out : PySem.W.keepIn K (.ref fa_f_take_out) = true)
    {fa_g_law_pen : Addr} {oc_g_law_pen kV_g_law_pen dc_g_law_pen pm_g_law_pen cd_g_law_pen ct_g_law_pen : Value} {od_g_law_pen an_g_law_pen : Option Addr} {sl_g_law_pen : Array (Option Value)}
    (a_g_law_pen : PySem.W.nsIn K mainGlobals "_law_pen" = some (some (.ref fa_g_law_pen))) (l_g_law_pen : K.lookup fa_g_law_pen = some ⟨oc_g_law_pen, od_g_law_pen, .func (PySem.W.fnOf "_law_pen" "_law_pen" (defArgs st_g_law_pen) (defBody st_g_law_pen) (defScope st_g_law_pen) .none kV_g_law_pen dc_g_law_pen pm_g_law_pen an_g_law_pen cd_g_law_pen ct_g_law_pen), sl_g_law_pen⟩)
    (c_g_law_pen : PySem.W.codeIn K cd_g_law_pen "_law_pen" = true) (k_g_law_pen : PySem.W.keepIn K (.ref fa_g_law_pen) = true)
    {fa_g_law_take : Addr} {oc_g_law_take kV_g_law_take dc_g_law_take pm_g_law_take cd_g_law_take ct_g_law_take : Value} {od_g_law_take an_g_law_take : Option Addr} {sl_g_law_take : Array (Option Value)}
    (a_g_law_take : PySem.W.nsIn K mainGlobals "_law_take" = some (some (.ref fa_g_law_take))) (l_g_law_take : K.lookup fa_g_law_take = some ⟨oc_g_law_take, od_g_law_take, .func (PySem.W.fnOf "_law_take" "_law_take" (defArgs st_g_law_take) (defBody st_g_law_take) (defScope st_g_law_take) .none kV_g_law_take dc_g_law_take pm_g_law_take an_g_law_take cd_g_law_take ct_g_law_take), sl_g_law_take⟩)
    (c_g_law_take : PySem.W.codeIn K cd_g_law_take "_law_take" = true) (k_g_law_take : PySem.W.keepIn K (.ref fa_g_law_take) = true)
    {fa_g_law_names : Addr} {oc_g_law_names kV_g_law_names dc_g_law_names pm_g_law_names cd_g_law_names ct_g_law_names : Value} {od_g_law_names an_g_law_names : Option Addr} {sl_g_law_names : Array (Option Value)}
    (a_g_law_names : PySem.W.nsIn K mainGlobals "_law_names" = some (some (.ref fa_g_law_names))) (l_g_law_names : K.lookup fa_g_law_names = some ⟨oc_g_law_names, od_g_law_names, .func (PySem.W.fnOf "_law_names" "_law_names" (defArgs st_g_law_names) (defBody st_g_law_names) (defScope st_g_law_names) .none kV_g_law_names dc_g_law_names pm_g_law_names an_g_law_names cd_g_law_names ct_g_law_names), sl_g_law_names⟩)
    (c_g_law_names : PySem.W.codeIn K cd_g_law_names "_law_names" = true) (k_g_law_names : PySem.W.keepIn K (.ref fa_g_law_names) = true)
    {fa_g_law_word_of : Addr} {oc_g_law_word_of kV_g_law_word_of dc_g_law_word_of pm_g_law_word_of cd_g_law_word_of ct_g_law_word_of : Value} {od_g_law_word_of an_g_law_word_of : Option Addr} {sl_g_law_word_of : Array (Option Value)}
    (a_g_law_word_of : PySem.W.nsIn K mainGlobals "_law_word_of" = some (some (.ref fa_g_law_word_of))) (l_g_law_word_of : K.lookup fa_g_law_word_of = some ⟨oc_g_law_word_of, od_g_law_word_of, .func (PySem.W.fnOf "_law_word_of" "_law_word_of" (defArgs st_g_law_word_of) (defBody st_g_law_word_of) (defScope st_g_law_word_of) .none kV_g_law_word_of dc_g_law_word_of pm_g_law_word_of an_g_law_word_of cd_g_law_word_of ct_g_law_word_of), sl_g_law_word_of⟩)
    (c_g_law_word_of : PySem.W.codeIn K cd_g_law_word_of "_law_word_of" = true) (k_g_law_word_of : PySem.W.keepIn K (.ref fa_g_law_word_of) = true)
    {fa_g_law_told : Addr} {oc_g_law_told kV_g_law_told dc_g_law_told pm_g_law_told cd_g_law_told ct_g_law_told : Value} {od_g_law_told an_g_law_told : Option Addr} {sl_g_law_told : Array (Option Value)}
    (a_g_law_told : PySem.W.nsIn K mainGlobals "_law_told" = some (some (.ref fa_g_law_told))) (l_g_law_told : K.lookup fa_g_law_told = some ⟨oc_g_law_told, od_g_law_told, .func (PySem.W.fnOf "_law_told" "_law_told" (defArgs st_g_law_told) (defBody st_g_law_told) (defScope st_g_law_told) .none kV_g_law_told dc_g_law_told pm_g_law_told an_g_law_told cd_g_law_told ct_g_law_told), sl_g_law_told⟩)
    (c_g_law_told : PySem.W.codeIn K cd_g_law_told "_law_told" = true) (k_g_law_told : PySem.W.keepIn K (.ref fa_g_law_told) = true)
    {fa_g_law_odd : Addr} {oc_g_law_odd kV_g_law_odd dc_g_law_odd pm_g_law_odd cd_g_law_odd ct_g_law_odd : Value} {od_g_law_odd an_g_law_odd : Option Addr} {sl_g_law_odd : Array (Option Value)}
    (a_g_law_odd : PySem.W.nsIn K mainGlobals "_law_odd" = some (some (.ref fa_g_law_odd))) (l_g_law_odd : K.lookup fa_g_law_odd = some ⟨oc_g_law_odd, od_g_law_odd, .func (PySem.W.fnOf "_law_odd" "_law_odd" (defArgs st_g_law_odd) (defBody st_g_law_odd) (defScope st_g_law_odd) .none kV_g_law_odd dc_g_law_odd pm_g_law_odd an_g_law_odd cd_g_law_odd ct_g_law_odd), sl_g_law_odd⟩)
    (c_g_law_odd : PySem.W.codeIn K cd_g_law_odd "_law_odd" = true) (k_g_law_odd : PySem.W.keepIn K (.ref fa_g_law_odd) = true)
    {fa_f_law : Addr} {oc_f_law kV_f_law dc_f_law pm_f_law cd_f_law ct_f_law : Value} {od_f_law an_f_law : Option Addr} {sl_f_law : Array (Option Value)}
    (a_f_law : PySem.W.nsIn K mainGlobals "law" = some (some (.ref fa_f_law))) (l_f_law : K.lookup fa_f_law = some ⟨oc_f_law, od_f_law, .func (PySem.W.fnOf "law" "law" (defArgs st_f_law) (defBody st_f_law) (defScope st_f_law) .none kV_f_law dc_f_law pm_f_law an_f_law cd_f_law ct_f_law), sl_f_law⟩)
    (c_f_law : PySem.W.codeIn K cd_f_law "law" = true) (k_f_law : PySem.W.keepIn K (.ref fa_f_law) = true)
    {u_MOST_STAMPS : Value} (z_MOST_STAMPS : PySem.W.nsIn K mainGlobals "MOST_STAMPS" = some (some u_MOST_STAMPS)) (r_MOST_STAMPS : RelV (V.int 24) u_MOST_STAMPS) (q_MOST_STAMPS : ∀ F, RT K F (V.int 24) (.int 24))
    {C_NoPlace : Addr} (ea_NoPlace : PySem.W.nsIn K mainGlobals "NoPlace" = some (some (.ref C_NoPlace))) (eb_NoPlace : PySem.W.excIn K C_NoPlace [.type "ValueError", .type "Exception", .type "BaseException", .type "object"] "ValueError.__new__" = true) (ec_NoPlace : PySem.W.keepIn K (.ref C_NoPlace) = true) (ed_NoPlace : PySem.W.subIn K (.ref C_NoPlace) (.type "BaseException") = some true) (ee_NoPlace : PySem.W.typeIn K (.ref C_NoPlace) = some (.type "type"))
    {C_Full : Addr} (ea_Full : PySem.W.nsIn K mainGlobals "Full" = some (some (.ref C_Full))) (eb_Full : PySem.W.excIn K C_Full [.type "ValueError", .type "Exception", .type "BaseException", .type "object"] "ValueError.__new__" = true) (ec_Full : PySem.W.keepIn K (.ref C_Full) = true) (ed_Full : PySem.W.subIn K (.ref C_Full) (.type "BaseException") = some true) (ee_Full : PySem.W.typeIn K (.ref C_Full) = some (.type "type"))
    {D_RunError : Addr} (na_RunError : PySem.W.nsIn K mainGlobals "RunError" = some (some (.ref D_RunError)))
    {D_NoPlace : Addr} (na_NoPlace : PySem.W.nsIn K mainGlobals "NoPlace" = some (some (.ref D_NoPlace)))
    {D_Full : Addr} (na_Full : PySem.W.nsIn K mainGlobals "Full" = some (some (.ref D_Full)))
    {D_NoCourse : Addr} (na_NoCourse : PySem.W.nsIn K mainGlobals "NoCourse" = some (some (.ref D_NoCourse)))
    {D_NoChoice : Addr} (na_NoChoice : PySem.W.nsIn K mainGlobals "NoChoice" = some (some (.ref D_NoChoice)))
    {D_Unlike : Addr} (na_Unlike : PySem.W.nsIn K mainGlobals "Unlike" = some (some (.ref D_Unlike)))
    {D_NoPage : Addr} (na_NoPage : PySem.W.nsIn K mainGlobals "NoPage" = some (some (.ref D_NoPage)))
    {D_NoNumber : Addr} (na_NoNumber : PySem.W.nsIn K mainGlobals "NoNumber" = some (some (.ref D_NoNumber)))
    {D_NoRunner : Addr} (na_NoRunner : PySem.W.nsIn K mainGlobals "NoRunner" = some (some (.ref D_NoRunner)))
    {D_NoClass : Addr} (na_NoClass : PySem.W.nsIn K mainGlobals "NoClass" = some (some (.ref D_NoClass)))
    {D_Lacking : Addr} (na_Lacking : PySem.W.nsIn K mainGlobals "Lacking" = some (some (.ref D_Lacking)))
    {D_NoText : Addr} (na_NoText : PySem.W.nsIn K mainGlobals "NoText" = some (some (.ref D_NoText)))
    {D_NoRow : Addr} (na_NoRow : PySem.W.nsIn K mainGlobals "NoRow" = some (some (.ref D_NoRow)))
    {D_Ringed : Addr} (na_Ringed : PySem.W.nsIn K mainGlobals "Ringed" = some (some (.ref D_Ringed)))
    (na_ValueError : PySem.W.nsIn K mainGlobals "ValueError" = some none)
    (hn : PySem.W.specialIn K (.builtin "object.__class__") "__get__" = some (some (.builtin "getset_descriptor.__get__"))) (ht : PySem.W.takesIn K (.builtin "object.__class__") = some true)
    (ha_NoPlace : PySem.W.findIn K (.ref C_NoPlace) "__getattribute__" = some (some (.builtin "BaseException.__getattribute__"))) (hb_NoPlace : PySem.W.findIn K (.ref C_NoPlace) "__getattr__" = some none) (hc_NoPlace : PySem.W.hasDictIn K C_NoPlace = true) (hd_NoPlace : PySem.W.findIn K (.ref C_NoPlace) "__class__" = some (some (.builtin "object.__class__"))) (he_NoPlace : PySem.W.mroIn K C_NoPlace (.type "object") = some true)
    (kit_NoPlace_RunError : PySem.W.kitOne K (.ref C_NoPlace) (.ref D_RunError) = some true)
    (exm_NoPlace_RunError : PySem.W.exmOne K (.ref C_NoPlace) (.ref D_RunError) = some true)
    (kit_NoPlace_NoPlace : PySem.W.kitOne K (.ref C_NoPlace) (.ref D_NoPlace) = some true)
    (kit_NoPlace_Full : PySem.W.kitOne K (.ref C_NoPlace) (.ref D_Full) = some false)
    (kit_NoPlace_NoCourse : PySem.W.kitOne K (.ref C_NoPlace) (.ref D_NoCourse) = some false)
    (exm_NoPlace_NoCourse : PySem.W.exmOne K (.ref C_NoPlace) (.ref D_NoCourse) = some false)
    (kit_NoPlace_NoChoice : PySem.W.kitOne K (.ref C_NoPlace) (.ref D_NoChoice) = some false)
    (kit_NoPlace_Unlike : PySem.W.kitOne K (.ref C_NoPlace) (.ref D_Unlike) = some false)
    (kit_NoPlace_NoPage : PySem.W.kitOne K (.ref C_NoPlace) (.ref D_NoPage) = some false)
    (kit_NoPlace_NoNumber : PySem.W.kitOne K (.ref C_NoPlace) (.ref D_NoNumber) = some false)
    (kit_NoPlace_NoRunner : PySem.W.kitOne K (.ref C_NoPlace) (.ref D_NoRunner) = some false)
    (kit_NoPlace_NoClass : PySem.W.kitOne K (.ref C_NoPlace) (.ref D_NoClass) = some false)
    (kit_NoPlace_Lacking : PySem.W.kitOne K (.ref C_NoPlace) (.ref D_Lacking) = some false)
    (kit_NoPlace_NoText : PySem.W.kitOne K (.ref C_NoPlace) (.ref D_NoText) = some false)
    (kit_NoPlace_NoRow : PySem.W.kitOne K (.ref C_NoPlace) (.ref D_NoRow) = some false)
    (kit_NoPlace_Ringed : PySem.W.kitOne K (.ref C_NoPlace) (.ref D_Ringed) = some false)
    (exm_NoPlace_Ringed : PySem.W.exmOne K (.ref C_NoPlace) (.ref D_Ringed) = some false)
    (kit_NoPlace_ValueError : PySem.W.kitOne K (.ref C_NoPlace) (.type "ValueError") = some true)
    (ha_Full : PySem.W.findIn K (.ref C_Full) "__getattribute__" = some (some (.builtin "BaseException.__getattribute__"))) (hb_Full : PySem.W.findIn K (.ref C_Full) "__getattr__" = some none) (hc_Full : PySem.W.hasDictIn K C_Full = true) (hd_Full : PySem.W.findIn K (.ref C_Full) "__class__" = some (some (.builtin "object.__class__"))) (he_Full : PySem.W.mroIn K C_Full (.type "object") = some true)
    (kit_Full_RunError : PySem.W.kitOne K (.ref C_Full) (.ref D_RunError) = some true)
    (exm_Full_RunError : PySem.W.exmOne K (.ref C_Full) (.ref D_RunError) = some true)
    (kit_Full_NoPlace : PySem.W.kitOne K (.ref C_Full) (.ref D_NoPlace) = some false)
    (kit_Full_Full : PySem.W.kitOne K (.ref C_Full) (.ref D_Full) = some true)
    (kit_Full_NoCourse : PySem.W.kitOne K (.ref C_Full) (.ref D_NoCourse) = some false)
    (exm_Full_NoCourse : PySem.W.exmOne K (.ref C_Full) (.ref D_NoCourse) = some false)
    (kit_Full_NoChoice : PySem.W.kitOne K (.ref C_Full) (.ref D_NoChoice) = some false)
    (kit_Full_Unlike : PySem.W.kitOne K (.ref C_Full) (.ref D_Unlike) = some false)
    (kit_Full_NoPage : PySem.W.kitOne K (.ref C_Full) (.ref D_NoPage) = some false)
    (kit_Full_NoNumber : PySem.W.kitOne K (.ref C_Full) (.ref D_NoNumber) = some false)
    (kit_Full_NoRunner : PySem.W.kitOne K (.ref C_Full) (.ref D_NoRunner) = some false)
    (kit_Full_NoClass : PySem.W.kitOne K (.ref C_Full) (.ref D_NoClass) = some false)
    (kit_Full_Lacking : PySem.W.kitOne K (.ref C_Full) (.ref D_Lacking) = some false)
    (kit_Full_NoText : PySem.W.kitOne K (.ref C_Full) (.ref D_NoText) = some false)
    (kit_Full_NoRow : PySem.W.kitOne K (.ref C_Full) (.ref D_NoRow) = some false)
    (kit_Full_Ringed : PySem.W.kitOne K (.ref C_Full) (.ref D_Ringed) = some false)
    (exm_Full_Ringed : PySem.W.exmOne K (.ref C_Full) (.ref D_Ringed) = some false)
    (kit_Full_ValueError : PySem.W.kitOne K (.ref C_Full) (.type "ValueError") = some true)
    (b_len : PySem.W.nsIn K mainGlobals "len" = some none)
    (b_abs : PySem.W.nsIn K mainGlobals "abs" = some none)
    (b_int : PySem.W.nsIn K mainGlobals "int" = some none)
    (b_str : PySem.W.nsIn K mainGlobals "str" = some none)
    (b_list : PySem.W.nsIn K mainGlobals "list" = some none)
    (b_tuple : PySem.W.nsIn K mainGlobals "tuple" = some none)
    (b_sorted : PySem.W.nsIn K mainGlobals "sorted" = some none)
    (b_sum : PySem.W.nsIn K mainGlobals "sum" = some none)
    (b_max : PySem.W.nsIn K mainGlobals "max" = some none)
    (b_min : PySem.W.nsIn K mainGlobals "min" = some none)
    (b_all : PySem.W.nsIn K mainGlobals "all" = some none)
    (b_any : PySem.W.nsIn K mainGlobals "any" = some none)
    (b_isinstance : PySem.W.nsIn K mainGlobals "isinstance" = some none)
    (b_bool : PySem.W.nsIn K mainGlobals "bool" = some none)
    (b_dict : PySem.W.nsIn K mainGlobals "dict" = some none)
    (b_range : PySem.W.nsIn K mainGlobals "range" = some none)
    (b_enumerate : PySem.W.nsIn K mainGlobals "enumerate" = some none)
    (b_zip : PySem.W.nsIn K mainGlobals "zip" = some none)
    (b_reversed : PySem.W.nsIn K mainGlobals "reversed" = some none)
    : ∃ fd : FuncData, (∀ (s : Shared) (v : Value), BindsTo s fd ⟨[v], []⟩ [("script", v)]) ∧ ∀ base : Heap, K.In base → base.Ns mainGlobals mg → FnOk l.prog w K mg base (L2.CX l.prog w) lev fa fd ["script"] (spL tabs lev K) := by
  have d_f_is_whole := def_mk (t := tabs) (x := "is_whole") (d := f_is_whole) (st := st_f_is_whole) (N := nm_f_is_whole) (ps := ps_f_is_whole) X G a_f_is_whole l_f_is_whole c_f_is_whole k_f_is_whole sc_f_is_whole (fun _ _ _ _ _ _ us hl => match us, hl with | [_], _ => rfl) rfl rfl mt_f_is_whole
  have d_f_is_below := def_mk (t := tabs) (x := "is_below") (d := f_is_below) (st := st_f_is_below) (N := nm_f_is_below) (ps := ps_f_is_below) X G a_f_is_below l_f_is_below c_f_is_below k_f_is_below sc_f_is_below (fun _ _ _ _ _ _ us hl => match us, hl with | [_, _], _ => rfl) rfl rfl mt_f_is_below
  have d_f_put_in := def_mk (t := tabs) (x := "put_in") (d := f_put_in) (st := st_f_put_in) (N := nm_f_put_in) (ps := ps_f_put_in) X G a_f_put_in l_f_put_in c_f_put_in k_f_put_in sc_f_put_in (fun _ _ _ _ _ _ us hl => match us, hl with | [_, _, _], _ => rfl) rfl rfl mt_f_put_in
  have d_f_take_out := def_mk (t := tabs) (x := "take_out") (d := f_take_out) (st := st_f_take_out) (N := nm_f_take_out) (ps := ps_f_take_out) X G a_f_take_out l_f_take_out c_f_take_out k_f_take_out sc_f_take_out (fun _ _ _ _ _ _ us hl => match us, hl with | [_, _], _ => rfl) rfl rfl mt_f_take_out
  have d_g_law_pen := def_mk (t := tabs) (x := "_law_pen") (d := g_law_pen) (st := st_g_law_pen) (N := nm_g_law_pen) (ps := ps_g_law_pen) X G a_g_law_pen l_g_law_pen c_g_law_pen k_g_law_pen sc_g_law_pen (fun _ _ _ _ _ _ us hl => match us, hl with | [_, _], _ => rfl) rfl rfl mt_g_law_pen
  have d_g_law_take := def_mk (t := tabs) (x := "_law_take") (d := g_law_take) (st := st_g_law_take) (N := nm_g_law_take) (ps := ps_g_law_take) X G a_g_law_take l_g_law_take c_g_law_take k_g_law_take sc_g_law_take (fun _ _ _ _ _ _ us hl => match us, hl with | [_, _], _ => rfl) rfl rfl mt_g_law_take
  have d_g_law_names := def_mk (t := tabs) (x := "_law_names") (d := g_law_names) (st := st_g_law_names) (N := nm_g_law_names) (ps := ps_g_law_names) X G a_g_law_names l_g_law_names c_g_law_names k_g_law_names sc_g_law_names (fun _ _ _ _ _ _ us hl => match us, hl with | [_, _], _ => rfl) rfl rfl mt_g_law_names
  have d_g_law_word_of := def_mk (t := tabs) (x := "_law_word_of") (d := g_law_word_of) (st := st_g_law_word_of) (N := nm_g_law_word_of) (ps := ps_g_law_word_of) X G a_g_law_word_of l_g_law_word_of c_g_law_word_of k_g_law_word_of sc_g_law_word_of (fun _ _ _ _ _ _ us hl => match us, hl with | [_], _ => rfl) rfl rfl mt_g_law_word_of
  have d_g_law_told := def_mk (t := tabs) (x := "_law_told") (d := g_law_told) (st := st_g_law_told) (N := nm_g_law_told) (ps := ps_g_law_told) X G a_g_law_told l_g_law_told c_g_law_told k_g_law_told sc_g_law_told (fun _ _ _ _ _ _ us hl => match us, hl with | [_, _], _ => rfl) rfl rfl mt_g_law_told
  have d_g_law_odd := def_mk (t := tabs) (x := "_law_odd") (d := g_law_odd) (st := st_g_law_odd) (N := nm_g_law_odd) (ps := ps_g_law_odd) X G a_g_law_odd l_g_law_odd c_g_law_odd k_g_law_odd sc_g_law_odd (fun _ _ _ _ _ _ us hl => match us, hl with | [_, _], _ => rfl) rfl rfl mt_g_law_odd
  have d_f_law := def_mk (t := tabs) (x := "law") (d := f_law) (st := st_f_law) (N := nm_f_law) (ps := ps_f_law) X G a_f_law l_f_law c_f_law k_f_law sc_f_law (fun _ _ _ _ _ _ us hl => match us, hl with | [_], _ => rfl) rfl rfl mt_f_law
  have e := hfa.symm.trans (PySem.W.mg_of X G a_f_law)
  cases e
  have ok : TabsOk K mg tabs := by
    refine ⟨?_, ?_, ?_, bi_mk X G ?_, ?_, ?_⟩
    · simp only [tabs, List.forall_mem_cons]
      exact ⟨⟨_, _, _, d_f_is_whole⟩, ⟨_, _, _, d_f_is_below⟩, ⟨_, _, _, d_f_put_in⟩, ⟨_, _, _, d_f_take_out⟩, ⟨_, _, _, d_g_law_pen⟩, ⟨_, _, _, d_g_law_take⟩, ⟨_, _, _, d_g_law_names⟩, ⟨_, _, _, d_g_law_word_of⟩, ⟨_, _, _, d_g_law_told⟩, ⟨_, _, _, d_g_law_odd⟩, ⟨_, _, _, d_f_law⟩, fun _ h => nomatch h⟩
    · simp only [tabs, List.forall_mem_cons]
      exact ⟨glb_mk X G z_MOST_STAMPS r_MOST_STAMPS q_MOST_STAMPS, fun _ h => nomatch h⟩
    · simp only [tabs, List.forall_mem_cons]
      exact ⟨exc_mk X G ea_NoPlace eb_NoPlace ec_NoPlace ed_NoPlace ee_NoPlace, exc_mk X G ea_Full eb_Full ec_Full ed_Full ee_Full, fun _ h => nomatch h⟩
    · simp only [biN, List.forall_mem_cons]
      exact ⟨b_len, b_abs, b_int, b_str, b_list, b_tuple, b_sorted, b_sum, b_max, b_min, b_all, b_any, b_isinstance, b_bool, b_dict, b_range, b_enumerate, b_zip, b_reversed, fun _ h => nomatch h⟩
    · simp only [tabs, List.forall_mem_cons]
      exact ⟨cls_mk X G na_RunError, cls_mk X G na_NoPlace, cls_mk X G na_Full, cls_mk X G na_NoCourse, cls_mk X G na_NoChoice, cls_mk X G na_Unlike, cls_mk X G na_NoPage, cls_mk X G na_NoNumber, cls_mk X G na_NoRunner, cls_mk X G na_NoClass, cls_mk X G na_Lacking, cls_mk X G na_NoText, cls_mk X G na_NoRow, cls_mk X G na_Ringed, cls_mkV X G na_ValueError, fun _ h => nomatch h⟩
    · simp only [tabs, List.forall_mem_cons]
      exact ⟨fun C hC => ⟨exk_mk X G ea_NoPlace na_RunError ⟨ha_NoPlace, hb_NoPlace, ed_NoPlace, hc_NoPlace, hd_NoPlace, hn, ht, he_NoPlace⟩ (kit_NoPlace_RunError.trans (congrArg some (show _ = exB "NoPlace" "RunError" by decide))) (fun _ => exm_NoPlace_RunError.trans (congrArg some (show _ = exB "NoPlace" "RunError" by decide))) (by decide) C hC,
        exk_mk X G ea_NoPlace na_NoPlace ⟨ha_NoPlace, hb_NoPlace, ed_NoPlace, hc_NoPlace, hd_NoPlace, hn, ht, he_NoPlace⟩ (kit_NoPlace_NoPlace.trans (congrArg some (show _ = exB "NoPlace" "NoPlace" by decide))) (fun z => absurd z (by decide)) (by decide) C hC,
        exk_mk X G ea_NoPlace na_Full ⟨ha_NoPlace, hb_NoPlace, ed_NoPlace, hc_NoPlace, hd_NoPlace, hn, ht, he_NoPlace⟩ (kit_NoPlace_Full.trans (congrArg some (show _ = exB "NoPlace" "Full" by decide))) (fun z => absurd z (by decide)) (by decide) C hC,
        exk_mk X G ea_NoPlace na_NoCourse ⟨ha_NoPlace, hb_NoPlace, ed_NoPlace, hc_NoPlace, hd_NoPlace, hn, ht, he_NoPlace⟩ (kit_NoPlace_NoCourse.trans (congrArg some (show _ = exB "NoPlace" "NoCourse" by decide))) (fun _ => exm_NoPlace_NoCourse.trans (congrArg some (show _ = exB "NoPlace" "NoCourse" by decide))) (by decide) C hC,
        exk_mk X G ea_NoPlace na_NoChoice ⟨ha_NoPlace, hb_NoPlace, ed_NoPlace, hc_NoPlace, hd_NoPlace, hn, ht, he_NoPlace⟩ (kit_NoPlace_NoChoice.trans (congrArg some (show _ = exB "NoPlace" "NoChoice" by decide))) (fun z => absurd z (by decide)) (by decide) C hC,
        exk_mk X G ea_NoPlace na_Unlike ⟨ha_NoPlace, hb_NoPlace, ed_NoPlace, hc_NoPlace, hd_NoPlace, hn, ht, he_NoPlace⟩ (kit_NoPlace_Unlike.trans (congrArg some (show _ = exB "NoPlace" "Unlike" by decide))) (fun z => absurd z (by decide)) (by decide) C hC,
        exk_mk X G ea_NoPlace na_NoPage ⟨ha_NoPlace, hb_NoPlace, ed_NoPlace, hc_NoPlace, hd_NoPlace, hn, ht, he_NoPlace⟩ (kit_NoPlace_NoPage.trans (congrArg some (show _ = exB "NoPlace" "NoPage" by decide))) (fun z => absurd z (by decide)) (by decide) C hC,
        exk_mk X G ea_NoPlace na_NoNumber ⟨ha_NoPlace, hb_NoPlace, ed_NoPlace, hc_NoPlace, hd_NoPlace, hn, ht, he_NoPlace⟩ (kit_NoPlace_NoNumber.trans (congrArg some (show _ = exB "NoPlace" "NoNumber" by decide))) (fun z => absurd z (by decide)) (by decide) C hC,
        exk_mk X G ea_NoPlace na_NoRunner ⟨ha_NoPlace, hb_NoPlace, ed_NoPlace, hc_NoPlace, hd_NoPlace, hn, ht, he_NoPlace⟩ (kit_NoPlace_NoRunner.trans (congrArg some (show _ = exB "NoPlace" "NoRunner" by decide))) (fun z => absurd z (by decide)) (by decide) C hC,
        exk_mk X G ea_NoPlace na_NoClass ⟨ha_NoPlace, hb_NoPlace, ed_NoPlace, hc_NoPlace, hd_NoPlace, hn, ht, he_NoPlace⟩ (kit_NoPlace_NoClass.trans (congrArg some (show _ = exB "NoPlace" "NoClass" by decide))) (fun z => absurd z (by decide)) (by decide) C hC,
        exk_mk X G ea_NoPlace na_Lacking ⟨ha_NoPlace, hb_NoPlace, ed_NoPlace, hc_NoPlace, hd_NoPlace, hn, ht, he_NoPlace⟩ (kit_NoPlace_Lacking.trans (congrArg some (show _ = exB "NoPlace" "Lacking" by decide))) (fun z => absurd z (by decide)) (by decide) C hC,
        exk_mk X G ea_NoPlace na_NoText ⟨ha_NoPlace, hb_NoPlace, ed_NoPlace, hc_NoPlace, hd_NoPlace, hn, ht, he_NoPlace⟩ (kit_NoPlace_NoText.trans (congrArg some (show _ = exB "NoPlace" "NoText" by decide))) (fun z => absurd z (by decide)) (by decide) C hC,
        exk_mk X G ea_NoPlace na_NoRow ⟨ha_NoPlace, hb_NoPlace, ed_NoPlace, hc_NoPlace, hd_NoPlace, hn, ht, he_NoPlace⟩ (kit_NoPlace_NoRow.trans (congrArg some (show _ = exB "NoPlace" "NoRow" by decide))) (fun z => absurd z (by decide)) (by decide) C hC,
        exk_mk X G ea_NoPlace na_Ringed ⟨ha_NoPlace, hb_NoPlace, ed_NoPlace, hc_NoPlace, hd_NoPlace, hn, ht, he_NoPlace⟩ (kit_NoPlace_Ringed.trans (congrArg some (show _ = exB "NoPlace" "Ringed" by decide))) (fun _ => exm_NoPlace_Ringed.trans (congrArg some (show _ = exB "NoPlace" "Ringed" by decide))) (by decide) C hC,
        exk_mkV X G ea_NoPlace na_ValueError ⟨ha_NoPlace, hb_NoPlace, ed_NoPlace, hc_NoPlace, hd_NoPlace, hn, ht, he_NoPlace⟩ kit_NoPlace_ValueError C hC, fun _ h => nomatch h⟩,
      fun C hC => ⟨exk_mk X G ea_Full na_RunError ⟨ha_Full, hb_Full, ed_Full, hc_Full, hd_Full, hn, ht, he_Full⟩ (kit_Full_RunError.trans (congrArg some (show _ = exB "Full" "RunError" by decide))) (fun _ => exm_Full_RunError.trans (congrArg some (show _ = exB "Full" "RunError" by decide))) (by decide) C hC,
        exk_mk X G ea_Full na_NoPlace ⟨ha_Full, hb_Full, ed_Full, hc_Full, hd_Full, hn, ht, he_Full⟩ (kit_Full_NoPlace.trans (congrArg some (show _ = exB "Full" "NoPlace" by decide))) (fun z => absurd z (by decide)) (by decide) C hC,
        exk_mk X G ea_Full na_Full ⟨ha_Full, hb_Full, ed_Full, hc_Full, hd_Full, hn, ht, he_Full⟩ (kit_Full_Full.trans (congrArg some (show _ = exB "Full" "Full" by decide))) (fun z => absurd z (by decide)) (by decide) C hC,
        exk_mk X G ea_Full na_NoCourse ⟨ha_Full, hb_Full, ed_Full, hc_Full, hd_Full, hn, ht, he_Full⟩ (kit_Full_NoCourse.trans (congrArg some (show _ = exB "Full" "NoCourse" by decide))) (fun _ => exm_Full_NoCourse.trans (congrArg some (show _ = exB "Full" "NoCourse" by decide))) (by decide) C hC,
        exk_mk X G ea_Full na_NoChoice ⟨ha_Full, hb_Full, ed_Full, hc_Full, hd_Full, hn, ht, he_Full⟩ (kit_Full_NoChoice.trans (congrArg some (show _ = exB "Full" "NoChoice" by decide))) (fun z => absurd z (by decide)) (by decide) C hC,
        exk_mk X G ea_Full na_Unlike ⟨ha_Full, hb_Full, ed_Full, hc_Full, hd_Full, hn, ht, he_Full⟩ (kit_Full_Unlike.trans (congrArg some (show _ = exB "Full" "Unlike" by decide))) (fun z => absurd z (by decide)) (by decide) C hC,
        exk_mk X G ea_Full na_NoPage ⟨ha_Full, hb_Full, ed_Full, hc_Full, hd_Full, hn, ht, he_Full⟩ (kit_Full_NoPage.trans (congrArg some (show _ = exB "Full" "NoPage" by decide))) (fun z => absurd z (by decide)) (by decide) C hC,
        exk_mk X G ea_Full na_NoNumber ⟨ha_Full, hb_Full, ed_Full, hc_Full, hd_Full, hn, ht, he_Full⟩ (kit_Full_NoNumber.trans (congrArg some (show _ = exB "Full" "NoNumber" by decide))) (fun z => absurd z (by decide)) (by decide) C hC,
        exk_mk X G ea_Full na_NoRunner ⟨ha_Full, hb_Full, ed_Full, hc_Full, hd_Full, hn, ht, he_Full⟩ (kit_Full_NoRunner.trans (congrArg some (show _ = exB "Full" "NoRunner" by decide))) (fun z => absurd z (by decide)) (by decide) C hC,
        exk_mk X G ea_Full na_NoClass ⟨ha_Full, hb_Full, ed_Full, hc_Full, hd_Full, hn, ht, he_Full⟩ (kit_Full_NoClass.trans (congrArg some (show _ = exB "Full" "NoClass" by decide))) (fun z => absurd z (by decide)) (by decide) C hC,
        exk_mk X G ea_Full na_Lacking ⟨ha_Full, hb_Full, ed_Full, hc_Full, hd_Full, hn, ht, he_Full⟩ (kit_Full_Lacking.trans (congrArg some (show _ = exB "Full" "Lacking" by decide))) (fun z => absurd z (by decide)) (by decide) C hC,
        exk_mk X G ea_Full na_NoText ⟨ha_Full, hb_Full, ed_Full, hc_Full, hd_Full, hn, ht, he_Full⟩ (kit_Full_NoText.trans (congrArg some (show _ = exB "Full" "NoText" by decide))) (fun z => absurd z (by decide)) (by decide) C hC,
        exk_mk X G ea_Full na_NoRow ⟨ha_Full, hb_Full, ed_Full, hc_Full, hd_Full, hn, ht, he_Full⟩ (kit_Full_NoRow.trans (congrArg some (show _ = exB "Full" "NoRow" by decide))) (fun z => absurd z (by decide)) (by decide) C hC,
        exk_mk X G ea_Full na_Ringed ⟨ha_Full, hb_Full, ed_Full, hc_Full, hd_Full, hn, ht, he_Full⟩ (kit_Full_Ringed.trans (congrArg some (show _ = exB "Full" "Ringed" by decide))) (fun _ => exm_Full_Ringed.trans (congrArg some (show _ = exB "Full" "Ringed" by decide))) (by decide) C hC,
        exk_mkV X G ea_Full na_ValueError ⟨ha_Full, hb_Full, ed_Full, hc_Full, hd_Full, hn, ht, he_Full⟩ kit_Full_ValueError C hC, fun _ h => nomatch h⟩, fun _ h => nomatch h⟩
  exact ⟨_, fun s v => .of_eq rfl, fun base _ _ => law_fn ok rfl d_f_law⟩
end K04
open PySem PySem.W PyProof.Rows
set_option maxHeartbeats 0 in
theorem PySem.Challenge.cw_stampcourse_k04_stamps_taken_out_holds : PySem.Challenge.rw_stampcourse_k04_stamps_taken_out.Holds := by
  w_on; o_law; k_head; (case hw => w_witness2)
  k_fill
  refine L2.walk_of (l := PySem.Challenge.rw_stampcourse_k04_stamps_taken_out) (n := 63) (k := 40) (x := "script") (CX := fun w => L2.CX PySem.Challenge.pw_stampcourse_k04_stamps_taken_out w) (sp := fun w => PV.spL K04.tabs 40 _) rfl (by decide) rfl ⟨rfl, by decide, by decide⟩ (fun w h Y => PySem.W.kIn_of Y) ?F
    (fun _ _ a ns hl _ hS => let ⟨S, e⟩ := K04.main ns hl; ⟨a, ns, S, rfl, hS, e, fun _ => rfl⟩) (fun _ _ _ _ _ h => by obtain ⟨_, _, _, _, _, _, _, _, _, _, _, _, q⟩ := h; exact q)
  case F =>
    intro w mg fa h KX G hmg
    refine' K04.all_mk (l := PySem.Challenge.rw_stampcourse_k04_stamps_taken_out) (lev := 40) KX G hmg ?a_f_is_whole ?l_f_is_whole ?c_f_is_whole ?k_f_is_whole ?a_f_is_below ?l_f_is_below ?c_f_is_below ?k_f_is_below ?a_f_put_in ?l_f_put_in ?c_f_put_in ?k_f_put_in ?a_f_take_out ?l_f_take_out ?c_f_take_out ?k_f_take_out ?a_g_law_pen ?l_g_law_pen ?c_g_law_pen ?k_g_law_pen ?a_g_law_take ?l_g_law_take ?c_g_law_take ?k_g_law_take ?a_g_law_names ?l_g_law_names ?c_g_law_names ?k_g_law_names ?a_g_law_word_of ?l_g_law_word_of ?c_g_law_word_of ?k_g_law_word_of ?a_g_law_told ?l_g_law_told ?c_g_law_told ?k_g_law_told ?a_g_law_odd ?l_g_law_odd ?c_g_law_odd ?k_g_law_odd ?a_f_law ?l_f_law ?c_f_law ?k_f_law ?z_MOST_STAMPS ?r_MOST_STAMPS ?q_MOST_STAMPS ?ea_NoPlace ?eb_NoPlace ?ec_NoPlace ?ed_NoPlace ?ee_NoPlace ?ea_Full ?eb_Full ?ec_Full ?ed_Full ?ee_Full ?na_RunError ?na_NoPlace ?na_Full ?na_NoCourse ?na_NoChoice ?na_Unlike ?na_NoPage ?na_NoNumber ?na_NoRunner ?na_NoClass ?na_Lacking ?na_NoText ?na_NoRow ?na_Ringed ?na_ValueError ?hn ?ht ?ha_NoPlace ?hb_NoPlace ?hc_NoPlace ?hd_NoPlace ?he_NoPlace ?kit_NoPlace_RunError ?exm_NoPlace_RunError ?kit_NoPlace_NoPlace ?kit_NoPlace_Full ?kit_NoPlace_NoCourse ?exm_NoPlace_NoCourse ?kit_NoPlace_NoChoice ?kit_NoPlace_Unlike ?kit_NoPlace_NoPage ?kit_NoPlace_NoNumber ?kit_NoPlace_NoRunner ?kit_NoPlace_NoClass ?kit_NoPlace_Lacking ?kit_NoPlace_NoText ?kit_NoPlace_NoRow ?kit_NoPlace_Ringed ?exm_NoPlace_Ringed ?kit_NoPlace_ValueError ?ha_Full ?hb_Full ?hc_Full ?hd_Full ?he_Full ?kit_Full_RunError ?exm_Full_RunError ?kit_Full_NoPlace ?kit_Full_Full ?kit_Full_NoCourse ?exm_Full_NoCourse ?kit_Full_NoChoice ?kit_Full_Unlike ?kit_Full_NoPage ?kit_Full_NoNumber ?kit_Full_NoRunner ?kit_Full_NoClass ?kit_Full_Lacking ?kit_Full_NoText ?kit_Full_NoRow ?kit_Full_Ringed ?exm_Full_Ringed ?kit_Full_ValueError ?b_len ?b_abs ?b_int ?b_str ?b_list ?b_tuple ?b_sorted ?b_sum ?b_max ?b_min ?b_all ?b_any ?b_isinstance ?b_bool ?b_dict ?b_range ?b_enumerate ?b_zip ?b_reversed
    (case a_f_is_whole => k_is)
    (case l_f_is_whole => k_is)
    (case c_f_is_whole => k_is)
    (case k_f_is_whole => k_is)
    (case a_f_is_below => k_is)
    (case l_f_is_below => k_is)
    (case c_f_is_below => k_is)
    (case k_f_is_below => k_is)
    (case a_f_put_in => k_is)
    (case l_f_put_in => k_is)
    (case c_f_put_in => k_is)
    (case k_f_put_in => k_is)
    (case a_f_take_out => k_is)
    (case l_f_take_out => k_is)
    (case c_f_take_out => k_is)
    (case k_f_take_out => k_is)
    (case a_g_law_pen => k_is)
    (case l_g_law_pen => k_is)
    (case c_g_law_pen => k_is)
    (case k_g_law_pen => k_is)
    (case a_g_law_take => k_is)
    (case l_g_law_take => k_is)
    (case c_g_law_take => k_is)
    (case k_g_law_take => k_is)
    (case a_g_law_names => k_is)
    (case l_g_law_names => k_is)
    (case c_g_law_names => k_is)
    (case k_g_law_names => k_is)
    (case a_g_law_word_of => k_is)
    (case l_g_law_word_of => k_is)
    (case c_g_law_word_of => k_is)
    (case k_g_law_word_of => k_is)
    (case a_g_law_told => k_is)
    (case l_g_law_told => k_is)
    (case c_g_law_told => k_is)
    (case k_g_law_told => k_is)
    (case a_g_law_odd => k_is)
    (case l_g_law_odd => k_is)
    (case c_g_law_odd => k_is)
    (case k_g_law_odd => k_is)
    (case a_f_law => k_is)
    (case l_f_law => k_is)
    (case c_f_law => k_is)
    (case k_f_law => k_is)
    (case z_MOST_STAMPS => k_is)
    (case r_MOST_STAMPS => exact ⟨_, rfl⟩)
    (case q_MOST_STAMPS => exact fun _ => .int _)
    (case ea_NoPlace => k_is)
    (case eb_NoPlace => k_exc)
    (case ec_NoPlace => k_is)
    (case ed_NoPlace => k_is)
    (case ee_NoPlace => k_is)
    (case ea_Full => k_is)
    (case eb_Full => k_exc)
    (case ec_Full => k_is)
    (case ed_Full => k_is)
    (case ee_Full => k_is)
    (case na_RunError => k_is)
    (case na_NoPlace => k_is)
    (case na_Full => k_is)
    (case na_NoCourse => k_is)
    (case na_NoChoice => k_is)
    (case na_Unlike => k_is)
    (case na_NoPage => k_is)
    (case na_NoNumber => k_is)
    (case na_NoRunner => k_is)
    (case na_NoClass => k_is)
    (case na_Lacking => k_is)
    (case na_NoText => k_is)
    (case na_NoRow => k_is)
    (case na_Ringed => k_is)
    (case na_ValueError => k_is)
    (case hn => k_is)
    (case ht => k_is)
    (case ha_NoPlace => k_is)
    (case hb_NoPlace => k_is)
    (case hc_NoPlace => k_is)
    (case hd_NoPlace => k_is)
    (case he_NoPlace => k_is)
    (case kit_NoPlace_RunError => kit_is)
    (case exm_NoPlace_RunError => kts_exm)
    (case kit_NoPlace_NoPlace => kit_is)
    (case kit_NoPlace_Full => kit_is)
    (case kit_NoPlace_NoCourse => kit_is)
    (case exm_NoPlace_NoCourse => kts_exm)
    (case kit_NoPlace_NoChoice => kit_is)
    (case kit_NoPlace_Unlike => kit_is)
    (case kit_NoPlace_NoPage => kit_is)
    (case kit_NoPlace_NoNumber => kit_is)
    (case kit_NoPlace_NoRunner => kit_is)
    (case kit_NoPlace_NoClass => kit_is)
    (case kit_NoPlace_Lacking => kit_is)
    (case kit_NoPlace_NoText => kit_is)
    (case kit_NoPlace_NoRow => kit_is)
    (case kit_NoPlace_Ringed => kit_is)
    (case exm_NoPlace_Ringed => kts_exm)
    (case kit_NoPlace_ValueError => kit_is)
    (case ha_Full => k_is)
    (case hb_Full => k_is)
    (case hc_Full => k_is)
    (case hd_Full => k_is)
    (case he_Full => k_is)
    (case kit_Full_RunError => kit_is)
    (case exm_Full_RunError => kts_exm)
    (case kit_Full_NoPlace => kit_is)
    (case kit_Full_Full => kit_is)
    (case kit_Full_NoCourse => kit_is)
    (case exm_Full_NoCourse => kts_exm)
    (case kit_Full_NoChoice => kit_is)
    (case kit_Full_Unlike => kit_is)
    (case kit_Full_NoPage => kit_is)
    (case kit_Full_NoNumber => kit_is)
    (case kit_Full_NoRunner => kit_is)
    (case kit_Full_NoClass => kit_is)
    (case kit_Full_Lacking => kit_is)
    (case kit_Full_NoText => kit_is)
    (case kit_Full_NoRow => kit_is)
    (case kit_Full_Ringed => kit_is)
    (case exm_Full_Ringed => kts_exm)
    (case kit_Full_ValueError => kit_is)
    (case b_len => k_is)
    (case b_abs => k_is)
    (case b_int => k_is)
    (case b_str => k_is)
    (case b_list => k_is)
    (case b_tuple => k_is)
    (case b_sorted => k_is)
    (case b_sum => k_is)
    (case b_max => k_is)
    (case b_min => k_is)
    (case b_all => k_is)
    (case b_any => k_is)
    (case b_isinstance => k_is)
    (case b_bool => k_is)
    (case b_dict => k_is)
    (case b_range => k_is)
    (case b_enumerate => k_is)
    (case b_zip => k_is)
    (case b_reversed => k_is)

